import PyProof.Rows.All
import Wide.All
import OpenK.AllK
import Wide.FinOn
import HandS.ForMost
import HandS.IsInst
import HandS.TupAny
import HandS.TupMul
import HandS.Wide
import HandS.Conv
import HandS.List
import HandS.SortInts
import HandS.Walk
import HandS.Zip
import HandS.Rev
import KE.DataMinMax
import KE.DataAny
import KE.DataFind
import KE.DataIsa
import KE.DataCmp
import KE.DataEq
import KE.SortData
import KE.DatumIndex
import KE.KTupSum
import KE.GoesEnum
import HandS.Style
import HandS.RaiseMore
import HandS.Flow
import HandS.Dict
import HandS.SetFor
import HandS.DictComp
import HandS.Iter
import KE.GoesMore
import HandS.NoneIn
import HandS.ExcInit
import HandS.ExcField
import HandS.ExcOwn
import HandS.WordsExc
import HandS.TryOnly
import HandS.TryMany
import KE.KExcIs
import HandS.ExcIs
import KE.KDictList
import KE.KDictDisplayH
import HandS.TupSets
import HandS.Set
import PyProof.SumAny
import PyProof.WalksMore
import PyProof.Rows.TupAdd
import PyProof.Rows.TupIter
import PyProof.AutoSeq1
import KE.KExcInit
import PyProof.ExcBaseAll.LookupError
import KE.KTryMore
import HandS.DictEq
import HandS.SlotsOwn
import PyProof.CallStr
import HandS.FStr
import HandS.DictTup
import HandS.Defaults
import HandS.Text
import PySem.Challenge.RW_listedges_k51_rooms_judged
set_option Elab.async false
set_option linter.all false
set_option maxRecDepth 100000
set_option maxHeartbeats 4000000
namespace DL
open PySem L2 PySem.Spec

/-! ### ownership types, stable data -/
inductive Ty where
  | u | s | q | d | l (t : Ty) | r (ts : List Ty) | e (a : Addr) (dx : Option Addr) (fs : List (Str × V)) (c : Str) | k (v : V) (t : Ty) | a (v : V) | t | o (C : Addr) (ns : List Str) (ts : List Ty) | f (C : Addr) (ns : List Str) | x (a : Addr) (o : Obj) (kvs : List (Int × V))

/-- a tuple whose object is known to have no dict of its own -/
def NdT (K : PySem.W.Frag) (G : Hp) (a : Addr) (xs : List V) : Prop :=
  (∃ o : Obj, o.cls = .type "tuple" ∧ o.dict = none ∧ G a = some (.frz o (.tup xs))) ∨
    ∃ (o : Obj) (its : Array Value) (n : Nat), K.lookup a = some o ∧ o.cls = .type "tuple" ∧ o.dict = none ∧ o.data = .seq its n ∧ its.size ≤ sizeLine ∧ Vals xs its.toList
theorem NdT.sq {K : PySem.W.Frag} {G : Hp} {a : Addr} {xs : List V} (h : NdT K G a xs) : SqT K G a xs := by
  rcases h with ⟨o, _, _, h⟩ | ⟨o, its, n, h1, h2, _, h3, h4, h5⟩
  · exact .inl (.inr ⟨o, h⟩)
  · exact .inr ⟨o, its, n, h1, h2, h3, h4, h5⟩
/-- a new tuple -/
def NewT (H : Hp) (xs : List V) (Q : VK) : Prop := ∀ (p : Addr) (o : Obj), o.cls = .type "tuple" → o.dict = none → H p = none → Q (.ref p) (upd H p (.frz o (.tup xs)))
/-- stable data: read off the kept heap G; every length within the line -/
inductive Dq (K : PySem.W.Frag) (G : Hp) : V → PyData → Prop
  | non : Dq K G .non .none
  | bl (b : Bool) : Dq K G (.bl b) (.bool b)
  | int (i : Int) : Dq K G (.int i) (.int i)
  | str (x : Str) : x.length ≤ sizeLine → Dq K G (.str x) (.str x)
  | lst {a : Addr} {xs : List V} {ds : List PyData} : Rd G a (.lst xs) → xs.length = ds.length → xs.length ≤ sizeLine → (∀ (i : Nat) (v : V) (d : PyData), xs[i]? = some v → ds[i]? = some d → Dq K G v d) → Dq K G (.ref a) (.list ds)
  | tup {a : Addr} {xs : List V} {ds : List PyData} : NdT K G a xs → xs.length = ds.length → xs.length ≤ sizeLine → (∀ (i : Nat) (v : V) (d : PyData), xs[i]? = some v → ds[i]? = some d → Dq K G v d) → Dq K G (.ref a) (.tuple ds)
  | dic {a : Addr} {kvs : List (Str × Int)} : Rd G a (.dK (kvs.map fun p => (Sum.inr p.1, V.int p.2))) → kvs.length ≤ 15 → (kvs = [] → G a = some (.dK [])) → Dq K G (.ref a) (.dict (kvs.map fun p => (.str p.1, .int p.2)))

def DqA (K : PySem.W.Frag) (G : Hp) (xs : List V) (ds : List PyData) : Prop := xs.length = ds.length ∧ ∀ (i : Nat) (v : V) (d : PyData), xs[i]? = some v → ds[i]? = some d → Dq K G v d

section
variable {K : PySem.W.Frag} {G G' H H' : Hp}

theorem same_rd {a : Addr} {u : HO} (e : Same G G') (h : Rd G a u) : Rd G' a u := by
  rcases h with h | ⟨o, h⟩
  · exact .inl (e _ _ h)
  · exact .inr ⟨o, e _ _ h⟩
theorem same_seqT {a : Addr} {xs : List V} (e : Same G G') (h : SqT K G a xs) : SqT K G' a xs := by
  rcases h with (h | ⟨o, h⟩) | h
  · exact .inl (.inl (e _ _ h))
  · exact .inl (.inr ⟨o, e _ _ h⟩)
  · exact .inr h

theorem same_ndT {a : Addr} {xs : List V} (e : Same G G') (h : NdT K G a xs) : NdT K G' a xs := by
  rcases h with ⟨o, h1, h2, h⟩ | h
  · exact .inl ⟨o, h1, h2, e _ _ h⟩
  · exact .inr h
theorem same_seqL {a : Addr} {xs : List V} (e : Same G G') (h : SqL K G a xs) : SqL K G' a xs := h.imp (same_rd e) id
theorem Dq.mono (e : Same G G') {v : V} {d : PyData} (h : Dq K G v d) : Dq K G' v d := by
  induction h with
  | non => exact .non
  | bl b => exact .bl b
  | int i => exact .int i
  | str x hx => exact .str x hx
  | lst hs hl hz _ ih => exact .lst (same_rd e hs) hl hz ih
  | tup hs hl hz _ ih => exact .tup (same_ndT e hs) hl hz ih
  | dic hs hz h0 => exact .dic (same_rd e hs) hz fun q => e _ _ (h0 q)

theorem DqA.mono (e : Same G G') {xs : List V} {ds : List PyData} (h : DqA K G xs ds) : DqA K G' xs ds := ⟨h.1, fun i v d a b => (h.2 i v d a b).mono e⟩

theorem DqA.nil : DqA K G [] [] := ⟨rfl, fun i v d h _ => by simp at h⟩
theorem DqA.cons {v : V} {d : PyData} {vs : List V} {ds : List PyData} (h : Dq K G v d) (t : DqA K G vs ds) : DqA K G (v :: vs) (d :: ds) := by
  refine ⟨by simp [t.1], fun i x y hx hy => ?_⟩
  cases i with
  | zero => simp at hx hy; subst hx; subst hy; exact h
  | succ i => simp at hx hy; exact t.2 i x y hx hy
theorem DqA.head {v : V} {d : PyData} {vs : List V} {ds : List PyData} (h : DqA K G (v :: vs) (d :: ds)) : Dq K G v d := h.2 0 v d rfl rfl
theorem DqA.tail {v : V} {d : PyData} {vs : List V} {ds : List PyData} (h : DqA K G (v :: vs) (d :: ds)) : DqA K G vs ds :=
  ⟨by have := h.1; simpa using this, fun i x y hx hy => h.2 (i + 1) x y (by simpa using hx) (by simpa using hy)⟩
theorem DqA.append {vs ws : List V} {ds es : List PyData} (h : DqA K G vs ds) (t : DqA K G ws es) : DqA K G (vs ++ ws) (ds ++ es) := by
  refine ⟨by simp [h.1, t.1], fun i x y hx hy => ?_⟩
  by_cases hi : i < vs.length
  · rw [List.getElem?_append_left hi] at hx
    rw [List.getElem?_append_left (by rw [← h.1]; exact hi)] at hy
    exact h.2 i x y hx hy
  · rw [List.getElem?_append_right (by omega)] at hx
    rw [List.getElem?_append_right (by rw [← h.1]; omega), ← h.1] at hy
    exact t.2 _ x y hx hy
theorem DqA.get {vs : List V} {ds : List PyData} (h : DqA K G vs ds) {i : Nat} {d : PyData} (e : ds[i]? = some d) : ∃ v, vs[i]? = some v ∧ Dq K G v d := by
  have hi : i < vs.length := by rw [h.1]; exact (List.getElem?_eq_some_iff.mp e).1
  exact ⟨vs[i], List.getElem?_eq_getElem hi, h.2 i _ _ (List.getElem?_eq_getElem hi) e⟩
end

/-- the hash of a tuple of ints -/
def hTI (ks : List Int) : Int := reduceHash (Builtin.Tuple.tupleHashOf (ks.map hashInt))
/-- a dict whose keys are tuples of ints, said of the heap by its object alone -/
def DTt (a : Addr) (kvs : List (List Int × Addr × V)) (h : Heap) : Prop :=
  (a == sysModules) = false ∧ (kvs.map (·.1)).Nodup ∧ ∃ xs : List (List Int × Addr × Value), xs.length = kvs.length ∧
    (∀ (i : Nat) (p : List Int × Addr × V) (q : List Int × Addr × Value), kvs[i]? = some p → xs[i]? = some q → p.1 = q.1 ∧ p.2.1 = q.2.1 ∧ RelV p.2.2 q.2.2) ∧
    ∃ (o : Obj) (es : Array DictEntry) (ep : Nat), h.get? a = some o ∧ o.ExactDict ∧ o.data = .dict es ep ∧ es.toList = xs.map fun x => (⟨hTI x.1, .ref x.2.1, x.2.2⟩ : DictEntry)
mutual
/-- t owned: its own lists at A, the rest stable in G -/
inductive Own (K : PySem.W.Frag) (G H : Hp) : Ty → PyData → Option V → List Addr → Prop
  | u (d : PyData) (v : Option V) : Own K G H .u d v []
  | s {d : PyData} {v : V} : Dq K G v d → Own K G H .s d (some v) []
  | q {a : Addr} {ns : List Int} : SqL K G a (ns.map V.int) → ns.length ≤ sizeLine → Own K G H .q (.list (ns.map PyData.int)) (some (.ref a)) []
  | d {a : Addr} {kvs : List (Int × V)} {ds : List (Int × PyData)} : G a = none → H a = some (.dK (kvs.map fun p => ((Sum.inl p.1 : Key), p.2))) → kvs.map (·.1) = ds.map (·.1) → DqA K G (kvs.map (·.2)) (ds.map (·.2)) → kvs.length ≤ sizeLine → Own K G H .d (.dict (ds.map fun p => (.int p.1, p.2))) (some (.ref a)) [a]
  | l {t : Ty} {a : Addr} {vs : List V} {ds : List PyData} {A : List Addr} : G a = none → H a = some (.lst vs) → vs.length ≤ sizeLine → OwnA K G H (List.replicate ds.length t) ds (vs.map some) A → Own K G H (.l t) (.list ds) (some (.ref a)) (a :: A)
  | r {ts : List Ty} {a : Addr} {vs : List V} {ds : List PyData} {A : List Addr} : G a = none → H a = some (.lst vs) → vs.length ≤ sizeLine → OwnA K G H ts ds (vs.map some) A → Own K G H (.r ts) (.list ds) (some (.ref a)) (a :: A)
  | e {a : Addr} {dx : Option Addr} {fs : List (Str × V)} {c : Str} {ds : List PyData} : (∀ x, dx = some x → G x = some (.xd fs)) → DqA K G (fs.map (·.2)) ds → Own K G H (.e a dx fs c) (.tuple (.str c :: ds)) (some (.ref a)) []
  | k {t : Ty} {d : PyData} {v : V} {A : List Addr} : Own K G H t d (some v) A → Own K G H (.k v t) d (some v) A
  | a (d : PyData) (v : V) : Own K G H (.a v) d (some v) []
  | t {a : Addr} {kvs : List (List Int × Addr × V)} {ds : List (List Int × PyData)} : G a = none → H a = some (.ext (DTt a kvs)) → kvs.map (·.1) = ds.map (·.1) → (∀ p ∈ kvs, Dq K G (.ref p.2.1) (.tuple (p.1.map .int))) → DqA K G (kvs.map (·.2.2)) (ds.map (·.2)) → kvs.length ≤ sizeLine → Own K G H .t (.dict (ds.map fun p => (.tuple (p.1.map .int), p.2))) (some (.ref a)) [a]
  | o {C dx a : Addr} {ns : List Str} {ts : List Ty} {fs : List (Str × V)} {ds : List PyData} {A : List Addr} : G a = none → G dx = none → H a = some (.ins C dx fs) → H dx = some (.own a) → fs.map (·.1) = ns → OwnA K G H ts ds (fs.map fun p => some p.2) A → Own K G H (.o C ns ts) (.list ds) (some (.ref a)) (a :: dx :: A)
  | f {C dx a : Addr} {ns : List Str} {fs : List (Str × V)} {ds : List PyData} : G a = some (.ins C dx fs) → fs.map (·.1) = ns → DqA K G (fs.map (·.2)) ds → Own K G H (.f C ns) (.list ds) (some (.ref a)) []
  | x {a : Addr} {o : Obj} {kvs : List (Int × V)} {ds : List (Int × PyData)} : G a = some (.frz o (.dK (kvs.map fun p => ((Sum.inl p.1 : Key), p.2)))) → kvs.map (·.1) = ds.map (·.1) → DqA K G (kvs.map (·.2)) (ds.map (·.2)) → kvs.length ≤ sizeLine → Own K G H (.x a o kvs) (.dict (ds.map fun p => (.int p.1, p.2))) (some (.ref a)) []
inductive OwnA (K : PySem.W.Frag) (G H : Hp) : List Ty → List PyData → List (Option V) → List Addr → Prop
  | nil : OwnA K G H [] [] [] []
  | cons {t : Ty} {ts : List Ty} {d : PyData} {ds : List PyData} {v : Option V} {vs : List (Option V)} {A B : List Addr} : Own K G H t d v A → OwnA K G H ts ds vs B → OwnA K G H (t :: ts) (d :: ds) (v :: vs) (A ++ B)
end

section
variable {K : PySem.W.Frag} {G G' H H' : Hp}
/-- owned addresses stand in H, not in G -/
theorem own_at {t : Ty} {d : PyData} {v : Option V} {A : List Addr} (h : Own K G H t d v A) : ∀ a ∈ A, G a = none ∧ ∃ o, H a = some o := by
  refine Own.rec (K := K) (G := G) (H := H) (motive_1 := fun t d v A _ => ∀ a ∈ A, G a = none ∧ ∃ o, H a = some o) (motive_2 := fun ts ds vs A _ => ∀ a ∈ A, G a = none ∧ ∃ o, H a = some o) ?_ ?_ ?_ ?_ ?_ ?_ ?_ ?_ ?_ ?_ ?_ ?_ ?_ ?_ ?_ h
  · intro d v a ha; cases ha
  · intro d v _ a ha; cases ha
  · intro a ns _ _ b hb; cases hb
  · intro a kvs ds h1 h2 _ _ _ b hb
    rw [List.mem_singleton.mp hb]
    exact ⟨h1, _, h2⟩
  · intro t a vs ds A h1 h2 _ _ ih b hb
    rcases List.mem_cons.mp hb with rfl | hb
    · exact ⟨h1, _, h2⟩
    · exact ih b hb
  · intro t a vs ds A h1 h2 _ _ ih b hb
    rcases List.mem_cons.mp hb with rfl | hb
    · exact ⟨h1, _, h2⟩
    · exact ih b hb
  · intro a dx fs c ds _ _ b hb; cases hb
  · intro t d v A _ ih; exact ih
  · intro d v b hb; cases hb
  · intro a kvs ds h1 h2 _ _ _ _ b hb
    rw [List.mem_singleton.mp hb]
    exact ⟨h1, _, h2⟩
  · intro C dx a ns ts fs ds A h1 h2 h3 h4 _ _ ih b hb
    rcases List.mem_cons.mp hb with rfl | hb
    · exact ⟨h1, _, h3⟩
    · rcases List.mem_cons.mp hb with rfl | hb
      · exact ⟨h2, _, h4⟩
      · exact ih b hb
  · intro C dx a ns fs ds _ _ _ b hb; cases hb
  · intro a o kvs ds _ _ _ _ b hb; cases hb
  · intro a ha; cases ha
  · intro t ts d ds v vs A B _ _ i1 i2 a ha
    rcases List.mem_append.mp ha with ha | ha
    · exact i1 a ha
    · exact i2 a ha
theorem ownA_at {t : List Ty} {d : List PyData} {v : List (Option V)} {A : List Addr} (h : OwnA K G H t d v A) : ∀ a ∈ A, G a = none ∧ ∃ o, H a = some o := by
  induction t generalizing d v A with
  | nil => cases h; intro a ha; cases ha
  | cons t ts ih =>
    cases h with
    | cons h1 h2 =>
      intro a ha
      rcases List.mem_append.mp ha with ha | ha
      · exact own_at h1 a ha
      · exact ih h2 a ha
/-- framing -/
theorem own_fr {t : Ty} {d : PyData} {v : Option V} {A : List Addr} (h : Own K G H t d v A) (e : Same G G') (hg : ∀ a ∈ A, G' a = none) (hh : ∀ a ∈ A, H' a = H a) : Own K G' H' t d v A := by
  refine Own.rec (K := K) (G := G) (H := H) (motive_1 := fun t d v A _ => (∀ a ∈ A, G' a = none) → (∀ a ∈ A, H' a = H a) → Own K G' H' t d v A) (motive_2 := fun t d v A _ => (∀ a ∈ A, G' a = none) → (∀ a ∈ A, H' a = H a) → OwnA K G' H' t d v A) ?_ ?_ ?_ ?_ ?_ ?_ ?_ ?_ ?_ ?_ ?_ ?_ ?_ ?_ ?_ h hg hh
  · intro d v _ _; exact .u d v
  · intro d v h _ _; exact .s (h.mono e)
  · intro a ns h hz _ _; exact .q (same_seqL e h) hz
  · intro a kvs ds h1 h2 hk q hz hg hh
    exact .d (hg a (List.mem_singleton.mpr rfl)) (by rw [hh a (List.mem_singleton.mpr rfl)]; exact h2) hk (q.mono e) hz
  · intro t a vs ds A h1 h2 hz _ ih hg hh
    exact .l (hg a (List.mem_cons_self ..)) (by rw [hh a (List.mem_cons_self ..)]; exact h2) hz (ih (fun b hb => hg b (List.mem_cons_of_mem _ hb)) fun b hb => hh b (List.mem_cons_of_mem _ hb))
  · intro t a vs ds A h1 h2 hz _ ih hg hh
    exact .r (hg a (List.mem_cons_self ..)) (by rw [hh a (List.mem_cons_self ..)]; exact h2) hz (ih (fun b hb => hg b (List.mem_cons_of_mem _ hb)) fun b hb => hh b (List.mem_cons_of_mem _ hb))
  · intro a dx fs c ds h1 h2 _ _
    exact .e (fun x hx => e _ _ (h1 x hx)) (h2.mono e)
  · intro t d v A _ ih hg hh; exact .k (ih hg hh)
  · intro d v _ _; exact .a d v
  · intro a kvs ds h1 h2 hk hq q hz hg hh
    exact .t (hg a (List.mem_singleton.mpr rfl)) (by rw [hh a (List.mem_singleton.mpr rfl)]; exact h2) hk (fun p hp => (hq p hp).mono e) (q.mono e) hz
  · intro C dx a ns ts fs ds A h1 h2 h3 h4 hn _ ih hg hh
    have m1 : a ∈ a :: dx :: A := List.mem_cons_self ..
    have m2 : dx ∈ a :: dx :: A := List.mem_cons_of_mem _ (List.mem_cons_self ..)
    have m3 : ∀ b ∈ A, b ∈ a :: dx :: A := fun b hb => List.mem_cons_of_mem _ (List.mem_cons_of_mem _ hb)
    exact .o (hg a m1) (hg dx m2) (by rw [hh a m1]; exact h3) (by rw [hh dx m2]; exact h4) hn (ih (fun b hb => hg b (m3 b hb)) fun b hb => hh b (m3 b hb))
  · intro C dx a ns fs ds h1 hn q _ _
    exact .f (e _ _ h1) hn (q.mono e)
  · intro a o kvs ds h1 hk q hz _ _
    exact .x (e _ _ h1) hk (q.mono e) hz
  · intro _ _; exact .nil
  · intro t ts d ds v vs A B _ _ i1 i2 hg hh
    exact .cons (i1 (fun b hb => hg b (List.mem_append_left _ hb)) fun b hb => hh b (List.mem_append_left _ hb)) (i2 (fun b hb => hg b (List.mem_append_right _ hb)) fun b hb => hh b (List.mem_append_right _ hb))
theorem ownA_fr {t : List Ty} {d : List PyData} {v : List (Option V)} {A : List Addr} (h : OwnA K G H t d v A) (e : Same G G') (hg : ∀ a ∈ A, G' a = none) (hh : ∀ a ∈ A, H' a = H a) : OwnA K G' H' t d v A := by
  induction t generalizing d v A with
  | nil => cases h; exact .nil
  | cons t ts ih =>
    cases h with
    | cons h1 h2 =>
      exact .cons (own_fr h1 e (fun b hb => hg b (List.mem_append_left _ hb)) fun b hb => hh b (List.mem_append_left _ hb)) (ih h2 (fun b hb => hg b (List.mem_append_right _ hb)) fun b hb => hh b (List.mem_append_right _ hb))
theorem ownA_len {t : List Ty} {d : List PyData} {v : List (Option V)} {A : List Addr} (h : OwnA K G H t d v A) : t.length = d.length ∧ v.length = d.length := by
  induction t generalizing d v A with
  | nil => cases h; exact ⟨rfl, rfl⟩
  | cons t ts ih =>
    cases h with
    | cons h1 h2 =>
      obtain ⟨a, b⟩ := ih h2
      simp only [List.length_cons]
      omega
/-- the kept heap with the owned addresses of H laid in -/
def lay (G H : Hp) (A : List Addr) : Hp := fun a => if a ∈ A then H a else G a
theorem lay_in {A : List Addr} {a : Addr} (h : a ∈ A) : lay G H A a = H a := by unfold lay; rw [if_pos h]
theorem lay_out {A : List Addr} {a : Addr} (h : a ∉ A) : lay G H A a = G a := by unfold lay; rw [if_neg h]
end
mutual
/-- no unknown part -/
def nou : Ty → Bool
  | .u => false
  | .s => true
  | .q => false
  | .d => false
  | .l t => nou t
  | .r ts => nouL ts
  | .e _ _ _ _ => false
  | .k _ t => nou t
  | .a _ => false
  | .t => false
  | .o _ _ _ => false
  | .f _ _ => false
  | .x _ _ _ => false
def nouL : List Ty → Bool
  | [] => true
  | t :: ts => nou t && nouL ts
end
theorem nouL_rep {t : Ty} (h : nou t = true) : ∀ n : Nat, nouL (List.replicate n t) = true
  | 0 => rfl
  | n + 1 => by
    show (nou t && nouL (List.replicate n t)) = true
    rw [h, nouL_rep h n]; rfl
section
variable {K : PySem.W.Frag} {G G' H H' : Hp}
/-- frozen: owned data becomes stable data of the grown G -/
theorem own_frz {t : Ty} {d : PyData} {v : Option V} {A : List Addr} (h : Own K G H t d v A) (e : Same G G') (hg : ∀ a ∈ A, G' a = H a) (hn : nou t = true) : ∃ x, v = some x ∧ Dq K G' x d := by
  refine Own.rec (K := K) (G := G) (H := H) (motive_1 := fun t d v A _ => (∀ a ∈ A, G' a = H a) → nou t = true → ∃ x, v = some x ∧ Dq K G' x d)
    (motive_2 := fun t d v A _ => (∀ a ∈ A, G' a = H a) → nouL t = true → ∀ vs : List V, v = vs.map some → DqA K G' vs d) ?_ ?_ ?_ ?_ ?_ ?_ ?_ ?_ ?_ ?_ ?_ ?_ ?_ ?_ ?_ h hg hn
  · intro d v _ h; exact absurd h (by simp [nou])
  · intro d v h _ _; exact ⟨_, rfl, h.mono e⟩
  · intro a ns _ _ _ h; exact absurd h (by simp [nou])
  · intro a kvs ds _ _ _ _ _ _ h; exact absurd h (by simp [nou])
  · intro t a vs ds A h1 h2 hz _ ih hg hn
    have q := ih (fun b hb => hg b (List.mem_cons_of_mem _ hb)) (nouL_rep (by simpa [nou] using hn) _) vs rfl
    have ea : G' a = some (.lst vs) := by rw [hg a (List.mem_cons_self ..)]; exact h2
    exact ⟨_, rfl, .lst (.inl ea) q.1 hz q.2⟩
  · intro t a vs ds A h1 h2 hz _ ih hg hn
    have q := ih (fun b hb => hg b (List.mem_cons_of_mem _ hb)) (by simpa [nou] using hn) vs rfl
    have ea : G' a = some (.lst vs) := by rw [hg a (List.mem_cons_self ..)]; exact h2
    exact ⟨_, rfl, .lst (.inl ea) q.1 hz q.2⟩
  · intro a dx fs c ds _ _ _ h; exact absurd h (by simp [nou])
  · intro t d v A _ ih hg hn; exact ih hg (by simpa [nou] using hn)
  · intro d v _ h; exact absurd h (by simp [nou])
  · intro a kvs ds _ _ _ _ _ _ _ h; exact absurd h (by simp [nou])
  · intro C dx a ns ts fs ds A _ _ _ _ _ _ _ _ h; exact absurd h (by simp [nou])
  · intro C dx a ns fs ds _ _ _ _ h; exact absurd h (by simp [nou])
  · intro a o kvs ds _ _ _ _ _ h; exact absurd h (by simp [nou])
  · intro _ _ vs hv
    cases vs with
    | nil => exact DqA.nil
    | cons _ _ => cases hv
  · intro t ts d ds v vs A B _ _ i1 i2 hg hn ws hw
    cases ws with
    | nil => cases hw
    | cons x ws =>
      simp only [List.map_cons, List.cons.injEq] at hw
      obtain ⟨hx, hw⟩ := hw
      simp only [nouL, Bool.and_eq_true] at hn
      obtain ⟨y, hy, q⟩ := i1 (fun b hb => hg b (List.mem_append_left _ hb)) hn.1
      rw [hx] at hy
      cases hy
      exact DqA.cons q (i2 (fun b hb => hg b (List.mem_append_right _ hb)) hn.2 ws hw)

/-! ### states and steps -/
structure Stt (K : PySem.W.Frag) (m : List Ty) (G H : Hp) (σ : St) (e : List PyData) (A : List Addr) : Prop where
  own : OwnA K G H m e σ A
  nd : A.Nodup
  sub : Same G H
structure Step (A : List Addr) (G H : Hp) (B : List Addr) (G' H' : Hp) : Prop where
  sg : Same G G'
  fr : ∀ a o, H a = some o → a ∉ A → H' a = some o
  own : ∀ a ∈ B, a ∈ A ∨ H a = none
  gnew : ∀ a, G a = none → (∃ o, G' a = some o) → a ∈ A ∨ H a = none
theorem Step.refl {A : List Addr} : Step A G H A G H := ⟨Same.refl G, fun _ _ h _ => h, fun _ h => .inl h, fun a h ⟨o, e⟩ => by rw [h] at e; cases e⟩
theorem none_or (H : Hp) (a : Addr) : H a = none ∨ ∃ o, H a = some o := by
  cases h : H a with
  | none => exact .inl rfl
  | some o => exact .inr ⟨o, rfl⟩
theorem Step.back {A B : List Addr} (s : Step A G H B G' H') {a : Addr} (h : H' a = none) : a ∈ A ∨ H a = none := by
  by_cases ha : a ∈ A
  · exact .inl ha
  · rcases none_or H a with e | ⟨o, e⟩
    · exact .inr e
    · rw [s.fr a o e ha] at h; cases h
/-- a step from what a step left, a value at Av kept aside -/
theorem Step.seq {A Av A1 B : List Addr} {G1 H1 G2 H2 : Hp} (s1 : Step A G H (Av ++ A1) G1 H1) (o1 : ∀ a ∈ Av, G1 a = none ∧ ∃ o, H1 a = some o) (nd : (Av ++ A1).Nodup) (s2 : Step A1 G1 H1 B G2 H2) (ndB : B.Nodup) :
    Step A G H (Av ++ B) G2 H2 ∧ (Av ++ B).Nodup ∧ (∀ a ∈ Av, G2 a = none) ∧ ∀ a ∈ Av, H2 a = H1 a := by
  have dis : ∀ a ∈ Av, a ∉ A1 := fun a ha hb => (List.nodup_append.mp nd).2.2 a ha a hb rfl
  have key : ∀ a, a ∈ A1 ∨ H1 a = none → a ∈ A ∨ H a = none := fun a h => by
    rcases h with h | h
    · exact s1.own a (List.mem_append_right _ h)
    · exact s1.back h
  refine ⟨⟨s1.sg.trans s2.sg, fun a o e ha => ?_, fun a ha => ?_, fun a e e2 => ?_⟩, ?_, fun a ha => ?_, fun a ha => ?_⟩
  · refine s2.fr a o (s1.fr a o e ha) fun hb => ?_
    rcases s1.own a (List.mem_append_right _ hb) with q | q
    · exact ha q
    · rw [e] at q; cases q
  · rcases List.mem_append.mp ha with ha | ha
    · exact s1.own a (List.mem_append_left _ ha)
    · exact key a (s2.own a ha)
  · rcases none_or G1 a with e1 | e1
    · exact key a (s2.gnew a e1 e2)
    · exact s1.gnew a e e1
  · refine List.nodup_append.mpr ⟨(List.nodup_append.mp nd).1, ndB, fun a ha b hb hab => ?_⟩
    subst hab
    rcases s2.own a hb with q | q
    · exact dis a ha q
    · obtain ⟨o, e⟩ := (o1 a ha).2
      rw [e] at q; cases q
  · rcases none_or G2 a with e | e
    · exact e
    · rcases s2.gnew a (o1 a ha).1 e with q | q
      · exact absurd q (dis a ha)
      · obtain ⟨o, e⟩ := (o1 a ha).2
        rw [e] at q; cases q
  · obtain ⟨o, e⟩ := (o1 a ha).2
    rw [e, s2.fr a o e (dis a ha)]
theorem Step.seq0 {A A1 B : List Addr} {G1 H1 G2 H2 : Hp} (s1 : Step A G H A1 G1 H1) (s2 : Step A1 G1 H1 B G2 H2) : Step A G H B G2 H2 := by
  have key : ∀ a, a ∈ A1 ∨ H1 a = none → a ∈ A ∨ H a = none := fun a h => by
    rcases h with h | h
    · exact s1.own a h
    · exact s1.back h
  refine ⟨s1.sg.trans s2.sg, fun a o e ha => ?_, fun a ha => key a (s2.own a ha), fun a e e2 => ?_⟩
  · refine s2.fr a o (s1.fr a o e ha) fun hb => ?_
    rcases s1.own a hb with q | q
    · exact ha q
    · rw [e] at q; cases q
  · rcases none_or G1 a with e1 | e1
    · exact key a (s2.gnew a e1 e2)
    · exact s1.gnew a e e1
theorem Step.less {A B B' : List Addr} (s : Step A G H B G' H') (h : ∀ a ∈ B', a ∈ B) : Step A G H B' G' H' := ⟨s.sg, s.fr, fun a ha => s.own a (h a ha), s.gnew⟩

/-- a new stable object -/
theorem new_s {A : List Addr} {m : List Ty} {σ : St} {e : List PyData} {p : Addr} {o : HO} (st : Stt K m G H σ e A) (hp : H p = none) :
    Step A G H A (upd G p o) (upd H p o) ∧ Stt K m (upd G p o) (upd H p o) σ e A ∧ Same G (upd G p o) := by
  have gp : G p = none := st.sub.free hp
  have sg : Same G (upd G p o) := fun b x hx => by rw [upd_ne (ne_of_none hx gp)]; exact hx
  have nA : ∀ a ∈ A, a ≠ p := fun a ha q => by
    obtain ⟨_, o, e⟩ := ownA_at st.own a ha
    rw [q, hp] at e; cases e
  refine ⟨⟨sg, fun a x hx _ => by rw [upd_ne (ne_of_none hx hp)]; exact hx, fun a ha => .inl ha, fun a e1 ⟨x, e2⟩ => ?_⟩, ⟨ownA_fr st.own sg (fun a ha => ?_) (fun a ha => upd_ne (nA a ha)), st.nd, fun b x hx => ?_⟩, sg⟩
  · by_cases q : a = p
    · subst q; exact .inr hp
    · rw [upd_ne q, e1] at e2; cases e2
  · rw [upd_ne (nA a ha)]; exact (ownA_at st.own a ha).1
  · by_cases q : b = p
    · subst q; rw [upd_same] at hx ⊢; exact hx
    · rw [upd_ne q] at hx ⊢; exact st.sub b x hx
/-- a new owned object -/
theorem new_o {A B : List Addr} {m : List Ty} {σ : St} {e : List PyData} {p : Addr} {o : HO} (st : Stt K m G H σ e A) (hp : H p = none) :
    Step A G H (p :: A) G (upd H p o) ∧ Stt K m G (upd H p o) σ e A ∧ (p :: A).Nodup ∧ G p = none := by
  have gp : G p = none := st.sub.free hp
  have nA : ∀ a ∈ A, a ≠ p := fun a ha q => by
    obtain ⟨_, o, e⟩ := ownA_at st.own a ha
    rw [q, hp] at e; cases e
  refine ⟨⟨Same.refl G, fun a x hx _ => by rw [upd_ne (ne_of_none hx hp)]; exact hx, fun a ha => ?_, fun a e1 ⟨x, e2⟩ => by rw [e1] at e2; cases e2⟩,
    ⟨ownA_fr st.own (Same.refl G) (fun a ha => (ownA_at st.own a ha).1) (fun a ha => upd_ne (nA a ha)), st.nd, fun b x hx => ?_⟩, ?_, gp⟩
  · rcases List.mem_cons.mp ha with rfl | ha
    · exact .inr hp
    · exact .inl ha
  · rw [upd_ne (ne_of_none hx gp)]; exact st.sub b x hx
  · exact List.nodup_cons.mpr ⟨fun h => nA p h rfl, st.nd⟩
/-- what is owned is frozen: G grows by it -/
theorem frz {A Av : List Addr} {m : List Ty} {σ : St} {e : List PyData} (st : Stt K m G H σ e A) (hv : ∀ a ∈ Av, G a = none ∧ ∃ o, H a = some o) (nd : (Av ++ A).Nodup) :
    Step (Av ++ A) G H A (lay G H Av) H ∧ Stt K m (lay G H Av) H σ e A ∧ Same G (lay G H Av) ∧ ∀ a ∈ Av, lay G H Av a = H a := by
  have dis : ∀ a ∈ A, a ∉ Av := fun a ha hb => (List.nodup_append.mp nd).2.2 a hb a ha rfl
  have sg : Same G (lay G H Av) := fun b x hx => by
    by_cases q : b ∈ Av
    · rw [(hv b q).1] at hx; cases hx
    · rw [lay_out q]; exact hx
  refine ⟨⟨sg, fun a o h _ => h, fun a ha => .inl (List.mem_append_right _ ha), fun a e1 ⟨o, e2⟩ => ?_⟩, ⟨ownA_fr st.own sg (fun a ha => ?_) (fun _ _ => rfl), st.nd, fun b x hx => ?_⟩, sg, fun a ha => lay_in ha⟩
  · by_cases q : a ∈ Av
    · exact .inl (List.mem_append_left _ q)
    · rw [lay_out q, e1] at e2; cases e2
  · rw [lay_out (dis a ha)]; exact (ownA_at st.own a ha).1
  · by_cases q : b ∈ Av
    · rw [lay_in q] at hx; exact hx
    · rw [lay_out q] at hx; exact st.sub b x hx
end
end DL

namespace DL
open PySem L2 PySem.Spec PyProof.Rows

/-! ### new tuples, their object known: it has no dict of its own -/
section
variable {X : Cx} {pins : List (Addr × Obj)} {σ : L2.St} {H : Hp} {s : Shared} {Q : VK} {xs : List V} {its : List Value} {tk : Nat}
theorem newT_ep (I : Inv X pins σ H s) (r : Vals xs its) (hz : xs.length ≤ sizeLine) (q : NewT H xs Q) : EP X pins σ Q (.ref s.heap.objs.size) { s with heap := s.heap.push { cls := .type "tuple", data := .seq its.toArray }, toks := s.toks } := by
  have hg : (s.heap.push { cls := .type "tuple", data := .seq its.toArray }).get? s.heap.objs.size = some { cls := .type "tuple", data := .seq its.toArray } := Heap.get?_push_size _ rfl
  exact ⟨.ref s.heap.objs.size, _, I.laid (t' := s.toks) (o := .frz { cls := .type "tuple", data := .seq its.toArray } (.tup xs)) (fun b ob e => Heap.get?_push_of_some _ e) (Nat.le_refl _) ⟨hg, hz, its, r, _, hg, rfl, _, rfl⟩, rfl, q _ { cls := .type "tuple", data := .seq its.toArray } rfl rfl (I.hok.fresh (Nat.le_refl _))⟩
def tTupN (t : TA) : TE := fun σ H Q => t σ H fun xs H1 => xs.length ≤ sizeLine ∧ NewT H1 xs Q
theorem pe_tupN {es : List Expr} {t : TA} {pos : Pos} {x1} (h : PA X es t) : PE X (.Tuple es x1 pos) (tTupN t) := by
  refine ⟨fun pins s σ H Q I hq => ?_⟩
  refine wpAny_Tuple_spliced (thn (h.run pos pins s σ H _ I hq) fun vs s2 ⟨ys, H2, I2, rr, zz, qq⟩ => ⟨by rw [← rr.length]; exact zz, ?_⟩)
  exact newT_ep I2 rr zz qq
def rCatN (K : PySem.W.Frag) : R2 := fun x y H Q => ∃ a b xs ys, x = .ref a ∧ y = .ref b ∧ SqT K H a xs ∧ SqT K H b ys ∧ xs.length + ys.length ≤ sizeLine ∧
  (xs = [] → Q (.ref b) H) ∧ (xs ≠ [] → ys = [] → Q (.ref a) H) ∧ (xs ≠ [] → ys ≠ [] → NewT H (xs ++ ys) Q)
theorem op_catN : OpR X (binaryOp .Add) (rCatN X.K) := by
  intro pins s σ H x y v u Q I rx ry h
  obtain ⟨a, b, xs, ys, rfl, rfl, ha, hb, hz, q0, q1, q2⟩ := h
  by_cases hx : xs = []
  · refine op_catA pins s σ H _ _ v u Q I rx ry ⟨a, b, xs, ys, rfl, rfl, ha, hb, hz, q0, fun z => absurd hx z, fun z => absurd hx z⟩
  · cases rx
    cases ry
    obtain ⟨is1, r1, p1, _⟩ := I.tuple ha
    obtain ⟨is2, r2, p2, _⟩ := I.tuple hb
    refine HT.cat_tup p1 p2 (fun z => hx (r1.nil_iff.mp z)) (fun z => ⟨.ref a, H, I, rfl, q1 hx (r2.nil_iff.mp z)⟩) (fun z => ?_) (by rw [← r1.length, ← r2.length]; exact hz)
    exact newT_ep I (r1.append r2) (by rw [List.length_append]; exact hz) (q2 hx fun w => z (r2.nil_iff.mpr w))
def rSlN (K : PySem.W.Frag) : V → Option Int → Option Int → Hp → VK → Prop := fun x lo hi H Q => ∃ a xs, x = .ref a ∧ SqT K H a xs ∧
  (HT.sIx xs.length 0 lo = 0 ∧ HT.sIx xs.length xs.length hi = xs.length → Q (.ref a) H) ∧ (¬ (HT.sIx xs.length 0 lo = 0 ∧ HT.sIx xs.length xs.length hi = xs.length) → NewT H (cutV xs lo hi) Q)
theorem sl_tupN : SlR X (rSlN X.K) := by
  intro pins s σ H x v vl vu lo hi sl Q I rx hs pl pu h
  obtain ⟨a, xs, rfl, hx, q1, q2⟩ := h
  by_cases hw : HT.sIx xs.length 0 lo = 0 ∧ HT.sIx xs.length xs.length hi = xs.length
  · exact sl_tupA pins s σ H _ v vl vu lo hi sl Q I rx hs pl pu ⟨a, xs, rfl, hx, q1, fun z => absurd hw z⟩
  · cases rx
    obtain ⟨is1, r1, ht, hz⟩ := I.tuple hx
    have hl : is1.toArray.size = xs.length := by rw [List.size_toArray]; exact r1.length.symm
    refine ⟨"tuple", _, PyProof.Rows.slot_tuple_getitem.lookup, ht.typeIs, ?_⟩
    refine HT.getItem_tuple_cut ht hs pl pu (by rw [hl]; exact hw) ?_ (by rw [hl]; exact hz)
    rw [hl]
    exact newT_ep I ((r1.drop (HT.sIx xs.length 0 lo)).take (HT.sIx xs.length xs.length hi - HT.sIx xs.length 0 lo)) (Nat.le_trans (cutV_length xs lo hi) hz) (q2 hw)
def rRepN (K : PySem.W.Frag) : R2 := fun x y H Q => ∃ l k xs, x = .ref l ∧ y = .int k ∧ SqT K H l xs ∧ xs ≠ [] ∧ 2 ≤ k ∧ k ≤ 1000 ∧ xs.length ≤ 1000 ∧ NewT H (List.replicate k.toNat xs).flatten Q
theorem op_repN : OpR X (binaryOp .Mult) (rRepN X.K) := by
  intro pins s σ H x y v u Q I rx ry h
  obtain ⟨l, n0, xs, rfl, rfl, hT, hne, h1, h2, hz, q⟩ := h
  cases rx
  obtain ⟨t, rfl⟩ := ry
  obtain ⟨is1, r1, ⟨⟨cls, dc, data, sl⟩, ho, hc, n, hd⟩, hs⟩ := I.tuple hT
  simp only at hc hd
  subst hc hd
  have ln : is1.length = xs.length := r1.length.symm
  have ne1 : is1.toArray.isEmpty = false := by
    cases is1 with
    | nil => exact absurd (List.eq_nil_of_length_eq_zero ln.symm) hne
    | cons a b => rfl
  have sz : is1.toArray.size = xs.length := by rw [List.size_toArray, ln]
  have hm : ((is1.toArray.size : Nat) : Int) * n0 ≤ 1000000 := by
    rw [sz]
    have : ((xs.length : Nat) : Int) * n0 ≤ 1000 * n0 := Int.mul_le_mul_of_nonneg_right (by omega) (by omega)
    omega
  have fl : (List.replicate n0.toNat is1).flatten.length ≤ sizeLine := by
    rw [PyProof.Rows.lm_len_rep_flat, ln, sizeLine_eq]
    have : n0.toNat * xs.length ≤ 1000 * 1000 := Nat.mul_le_mul (by omega) hz
    omega
  have g0 : (decide (n0 < -(2 ^ 63)) || decide (n0 ≥ 2 ^ 63)) = false := by
    rw [decide_eq_false (by omega), decide_eq_false (by omega)]; rfl
  have g1 : (is1.toArray.isEmpty || n0 == 1) = false := by
    rw [ne1, Bool.false_or]; exact beq_eq_false_iff_ne.mpr (by omega)
  have g2 : (decide (n0 ≤ 0) || is1.toArray.isEmpty) = false := by
    rw [ne1, Bool.or_false]; exact decide_eq_false (by omega)
  have g4 : Builtin.Tuple.tupleTooMany (((is1.toArray.size : Nat) : Int) * n0) = false := by
    unfold Builtin.Tuple.tupleTooMany
    rw [sizeLine_eq]; exact decide_eq_false (by omega)
  have g3 : ¬ ((is1.toArray.size : Nat) : Int) * n0 > (2 ^ 63 - 1) / 8 := by omega
  have fz : (List.replicate n0.toNat xs).flatten.length ≤ sizeLine := by
    rw [PyProof.Rows.lm_len_rep_flat] at fl ⊢
    rw [← ln]; exact fl
  have W := tuple_mulW l is1.toArray n dc sl n0 t g0 g1 g2 g3 g4 (by rw [size_rep, List.size_toArray]; exact fl)
  refine wpAny_binaryOp_repeat_ref (T := "tuple") (U := "int") (by decide) ⟨_, ho, rfl⟩ (fun s1 => typeIs_int s1 n0 t) noFill_tuple_mul F.fills_int_mul F.slot_int_rmul repeat_tuple F.slot_int_index.lookup ?_
  refine call_meets F.slot_int_rmul (typeIs_int s n0 t) F.entry_int_rmul (F.args_int_rmul_2 _ _) (int_rmul_tuple n0 t l is1.toArray n dc sl) ⟨ho, rfl, ⟨_, ho, rfl⟩, ?_⟩
  refine call_meets F.slot_tuple_mul ⟨_, ho, rfl⟩ F.entry_tuple_mul (F.args_tuple_mul_2 _ _) W ⟨ho, ?_⟩
  rw [size_rep]
  exact newT_ep I (r1.rep n0.toNat) fz q
/-- tuple(x) -/
theorem call_tuple_ofN : CallR X (.type "tuple") (fun vs H Q => ∃ p ys, vs = [.ref p] ∧ ((SqL X.K H p ys ∧ NewT H ys Q) ∨ (SqT X.K H p ys ∧ Q (.ref p) H))) := by
  intro pins s σ H vs us Q I r h
  obtain ⟨p, ys, rfl, h⟩ := h
  rcases h with ⟨hq, q⟩ | ⟨hq, q⟩
  · obtain ⟨u, rfl, rx⟩ := vals1 r
    cases rx
    obtain ⟨is1, r1, pl, hz⟩ := I.list hq
    have hl := r1.length
    refine call_tuple_list pl.isList (fun h2 kp => ?_) (by simp only [List.size_toArray]; omega)
    have I1 : Inv X pins σ H { s with heap := h2 } := I.kept (t' := s.toks) kp
    exact newT_ep I1 r1 hz q
  · exact call_tuple_of pins s σ H _ us Q I r ⟨p, ys, rfl, .inr ⟨hq, q⟩⟩
end
end DL

namespace DL
open PySem L2 PySem.Spec

abbrev En := List PyData
abbrev Ef := En → Option (PyData × En)
abbrev Bf := En → Option (Bool × En)
abbrev Lf := En → Option (List PyData × En)

section
variable {K : PySem.W.Frag} {G G' H H' : Hp}
/-- the j-th taken out -/
theorem ownA_take {ts : List Ty} {ds : List PyData} {vs : List (Option V)} {A : List Addr} (h : OwnA K G H ts ds vs A) {j : Nat} {t : Ty} (e : ts[j]? = some t) :
    ∃ d v Aj A0, ds[j]? = some d ∧ vs[j]? = some v ∧ Own K G H t d v Aj ∧ OwnA K G H (ts.set j .u) ds vs A0 ∧ A.Perm (Aj ++ A0) := by
  induction ts generalizing ds vs A j with
  | nil => simp at e
  | cons t0 ts ih =>
    cases h with
    | @cons _ _ d ds v vs A B h1 h2 =>
      cases j with
      | zero =>
        simp at e; subst e
        exact ⟨d, v, A, B, rfl, rfl, h1, by simpa using OwnA.cons (.u d v) h2, List.Perm.refl _⟩
      | succ j =>
        obtain ⟨d', v', Aj, A0, e1, e2, o1, o2, p⟩ := ih h2 (by simpa using e)
        refine ⟨d', v', Aj, A ++ A0, by simpa using e1, by simpa using e2, o1, OwnA.cons h1 o2, ?_⟩
        exact (List.Perm.append_left A p).trans (by rw [← List.append_assoc, ← List.append_assoc]; exact List.Perm.append_right _ List.perm_append_comm)
/-- the j-th put in -/
theorem ownA_put {ts : List Ty} {ds : List PyData} {vs : List (Option V)} {A0 : List Addr} (h : OwnA K G H ts ds vs A0) {j : Nat} (hj : ts[j]? = some .u) {t : Ty} {d : PyData} {v : Option V} {Aj : List Addr} (o : Own K G H t d v Aj) :
    ∃ A, OwnA K G H (ts.set j t) (ds.set j d) (vs.set j v) A ∧ A.Perm (Aj ++ A0) := by
  induction ts generalizing ds vs A0 j with
  | nil => simp at hj
  | cons t0 ts ih =>
    cases h with
    | @cons _ _ d0 ds v0 vs A B h1 h2 =>
      cases j with
      | zero =>
        simp at hj; subst hj
        cases h1
        exact ⟨Aj ++ B, by simpa using OwnA.cons o h2, by simp⟩
      | succ j =>
        obtain ⟨A', o2, p⟩ := ih h2 (by simpa using hj)
        refine ⟨A ++ A', by simpa using OwnA.cons h1 o2, ?_⟩
        exact (List.Perm.append_left A p).trans (by rw [← List.append_assoc, ← List.append_assoc]; exact List.Perm.append_right _ List.perm_append_comm)
/-- a type forgotten -/
theorem ownA_hide {ts : List Ty} {ds : List PyData} {vs : List (Option V)} {A : List Addr} (h : OwnA K G H ts ds vs A) (j : Nat) : ∃ A0, OwnA K G H (ts.set j .u) ds vs A0 ∧ ∃ B, A.Perm (B ++ A0) := by
  cases e : ts[j]? with
  | none => exact ⟨A, by rw [List.set_eq_of_length_le (by simpa using e)]; exact h, [], by simp⟩
  | some t =>
    obtain ⟨d, v, Aj, A0, _, _, _, o, p⟩ := ownA_take h e
    exact ⟨A0, o, Aj, p⟩
theorem ownA_getS {ts : List Ty} {ds : List PyData} {vs : List (Option V)} {A : List Addr} (h : OwnA K G H ts ds vs A) {j : Nat} (e : ts[j]? = some .s) : ∃ d v, ds[j]? = some d ∧ vs[j]? = some (some v) ∧ Dq K G v d := by
  obtain ⟨d, v, Aj, A0, e1, e2, o, _, _⟩ := ownA_take h e
  cases o with
  | s h => exact ⟨d, _, e1, e2, h⟩
end

theorem set_id {α : Type} {l : List α} {j : Nat} {x : α} (h : l[j]? = some x) : l.set j x = l := by
  apply List.ext_getElem?
  intro i
  rw [List.getElem?_set]
  split
  · rename_i hij; subst hij
    obtain ⟨h1, h2⟩ := List.getElem?_eq_some_iff.mp h
    simp [h1, h2]
  · rfl
theorem stt_frz {K : PySem.W.Frag} {G H : Hp} {m : List Ty} {σ : St} {e : En} {A : List Addr} {j : Nat} {t : Ty} (st : Stt K m G H σ e A) (hm : m[j]? = some t) (hn : nou t = true) :
    ∃ G' A', Step A G H A' G' H ∧ Stt K (m.set j .s) G' H σ e A' := by
  obtain ⟨d', v, Aj, A0, h1, h2, h3, h4, hp⟩ := ownA_take st.own hm
  have nd : (Aj ++ A0).Nodup := hp.nodup_iff.mp st.nd
  have st0 : Stt K (m.set j .u) G H σ e A0 := ⟨h4, (List.nodup_append.mp nd).2.1, st.sub⟩
  obtain ⟨s1, st1, sg, hl⟩ := frz st0 (own_at h3) nd
  obtain ⟨x, rfl, q⟩ := own_frz h3 sg hl hn
  have hj : (m.set j .u)[j]? = some .u := by
    have := (List.getElem?_eq_some_iff.mp hm).1
    simp [this]
  obtain ⟨A', o', p'⟩ := ownA_put st1.own hj (.s q)
  rw [set_id h1, set_id h2, List.set_set] at o'
  have pA : A'.Perm A0 := by simpa using p'
  refine ⟨_, A', ⟨s1.sg, fun a o h _ => h, fun a ha => .inl (hp.mem_iff.mpr (List.mem_append_right _ (pA.mem_iff.mp ha))), fun a h1 h2 => .inl ((s1.gnew a h1 h2).elim (fun z => hp.mem_iff.mpr z) fun z => ?_)⟩, ⟨o', pA.nodup_iff.mpr st1.nd, st1.sub⟩⟩
  obtain ⟨o, ho⟩ := h2
  by_cases q : a ∈ Aj
  · exact hp.mem_iff.mpr (List.mem_append_left _ q)
  · rw [lay_out q, h1] at ho; cases ho

/-! ### readings over data -/
def DE (K : PySem.W.Frag) (m : List Ty) (te : TE) (ty : Ty) (f : Ef) (m' : List Ty) : Prop :=
  ∀ {G H : Hp} {σ : St} {e : En} {A : List Addr} {d : PyData} {e' : En} {Q : VK}, Stt K m G H σ e A → f e = some (d, e') →
    (∀ (G' H' : Hp) (v : V) (Av A' : List Addr), Step A G H (Av ++ A') G' H' → Stt K m' G' H' σ e' A' → Own K G' H' ty d (some v) Av → (Av ++ A').Nodup → Q v H') → te σ H Q
def DT (K : PySem.W.Frag) (m : List Ty) (tt : TT) (f : Bf) (m' : List Ty) : Prop :=
  ∀ {G H : Hp} {σ : St} {e : En} {A : List Addr} {b : Bool} {e' : En} {Q : Bool → Hp → Prop}, Stt K m G H σ e A → f e = some (b, e') →
    (∀ (G' H' : Hp) (A' : List Addr), Step A G H A' G' H' → Stt K m' G' H' σ e' A' → Q b H') → tt σ H Q
def DA (K : PySem.W.Frag) (m : List Ty) (ta : TA) (tys : List Ty) (f : Lf) (m' : List Ty) : Prop :=
  ∀ {G H : Hp} {σ : St} {e : En} {A : List Addr} {ds : List PyData} {e' : En} {Q : List V → Hp → Prop}, Stt K m G H σ e A → f e = some (ds, e') →
    (∀ (G' H' : Hp) (vs : List V) (Av A' : List Addr), Step A G H (Av ++ A') G' H' → Stt K m' G' H' σ e' A' → OwnA K G' H' tys ds (vs.map some) Av → (Av ++ A').Nodup → Q vs H') → ta σ H Q

/-- room, whatever is handled -/
structure RoomU (k : Nat) (A : Around) : Prop where
  dp : A.depth + 3 * k + 5 < recursionLimit
  un : A.units + 16 * k + 200 < cLine
theorem _root_.L2.Room.u {k : Nat} {A : Around} (r : Room k A) : RoomU k A := ⟨r.dp, r.un⟩
/-- a family of contexts that agree on what is fixed -/
class Fam {ι : Type} (Xf : ι → Cx) (P : outParam Program) (w : outParam World) (K : outParam PySem.W.Frag) (mg : outParam (Str → Option Value)) (base : outParam Heap) (n : outParam Nat) : Prop where
  prog : ∀ i, (Xf i).prog = P
  w_ : ∀ i, (Xf i).w = w
  kk : ∀ i, (Xf i).K = K
  mg_ : ∀ i, (Xf i).mg = mg
  base_ : ∀ i, (Xf i).base = base
  room : ∀ i, RoomU n (Xf i).A
  nd : ∀ i, (Xf i).N.Nodup

structure PD {ι : Type} (Xf : ι → Cx) (K : PySem.W.Frag) (m : List Ty) (e : Expr) (ty : Ty) (f : Ef) (m' : List Ty) : Prop where
  ex : ∃ te : TE, (∀ i, PE (Xf i) e te) ∧ DE K m te ty f m'
structure PB {ι : Type} (Xf : ι → Cx) (K : PySem.W.Frag) (m : List Ty) (e : Expr) (f : Bf) (m' : List Ty) : Prop where
  ex : ∃ tt : TT, (∀ i, PT (Xf i) e tt) ∧ DT K m tt f m'
/-- a test within and, or -/
structure PBw {ι : Type} (Xf : ι → Cx) (K : PySem.W.Frag) (m : List Ty) (e : Expr) (f : Bf) (m' : List Ty) : Prop where
  ex : ∃ tt : TT, (∀ i, PW (Xf i) e tt) ∧ DT K m tt f m'
structure PL {ι : Type} (Xf : ι → Cx) (K : PySem.W.Frag) (m : List Ty) (es : List Expr) (tys : List Ty) (f : Lf) (m' : List Ty) : Prop where
  ex : ∃ ta : TA, (∀ i, PA (Xf i) es ta) ∧ DA K m ta tys f m'

/-! ### operations by values -/
def D1 (K : PySem.W.Frag) (r : V → Hp → VK → Prop) (ty : Ty) (g : PyData → Option PyData) : Prop :=
  ∀ {m : List Ty} {G H : Hp} {σ : St} {e : En} {A : List Addr} {x : V} {dx d : PyData} {Q : VK}, Stt K m G H σ e A → Dq K G x dx → g dx = some d →
    (∀ (G' H' : Hp) (v : V) (Av A' : List Addr), Step A G H (Av ++ A') G' H' → Stt K m G' H' σ e A' → Own K G' H' ty d (some v) Av → (Av ++ A').Nodup → Q v H') → r x H Q
def D2 (K : PySem.W.Frag) (r : R2) (ty : Ty) (g : PyData → PyData → Option PyData) : Prop :=
  ∀ {m : List Ty} {G H : Hp} {σ : St} {e : En} {A : List Addr} {x y : V} {dx dy d : PyData} {Q : VK}, Stt K m G H σ e A → Dq K G x dx → Dq K G y dy → g dx dy = some d →
    (∀ (G' H' : Hp) (v : V) (Av A' : List Addr), Step A G H (Av ++ A') G' H' → Stt K m G' H' σ e A' → Own K G' H' ty d (some v) Av → (Av ++ A').Nodup → Q v H') → r x y H Q
structure Op2 {ι : Type} (Xf : ι → Cx) (K : PySem.W.Frag) (op : Value → Value → Sem Value) (ty : Ty) (g : PyData → PyData → Option PyData) : Prop where
  ex : ∃ r : R2, (∀ i, OpR (Xf i) op r) ∧ D2 K r ty g
structure Ix2 {ι : Type} (Xf : ι → Cx) (K : PySem.W.Frag) (ty : Ty) (g : PyData → PyData → Option PyData) : Prop where
  ex : ∃ r : R2, (∀ i, IxR (Xf i) r) ∧ D2 K r ty g
/-- a built-in called with one stable value, with two -/
structure Cl1 {ι : Type} (Xf : ι → Cx) (K : PySem.W.Frag) (fn : Value) (ty : Ty) (g : PyData → Option PyData) : Prop where
  ex : ∃ r : List V → Hp → VK → Prop, (∀ i, CallR (Xf i) fn r) ∧ D1 K (fun x => r [x]) ty g
structure Cl2 {ι : Type} (Xf : ι → Cx) (K : PySem.W.Frag) (fn : Value) (ty : Ty) (g : PyData → PyData → Option PyData) : Prop where
  ex : ∃ r : List V → Hp → VK → Prop, (∀ i, CallR (Xf i) fn r) ∧ D2 K (fun x y => r [x, y]) ty g

section
variable {K : PySem.W.Frag} {G H : Hp} {m : List Ty} {σ : St} {e : En} {A : List Addr} {d : PyData} {Q : VK} {ty : Ty}
/-- an answer that changes nothing -/
theorem ans_s (st : Stt K m G H σ e A) {v : V} (h : Dq K G v d) (k : ∀ (G' H' : Hp) (v : V) (Av A' : List Addr), Step A G H (Av ++ A') G' H' → Stt K m G' H' σ e A' → Own K G' H' .s d (some v) Av → (Av ++ A').Nodup → Q v H') : Q v H :=
  k G H v [] A Step.refl st (.s h) st.nd
/-- an answer in a new tuple -/
theorem ans_tup (st : Stt K m G H σ e A) {vs : List V} {ds : List PyData} (h : DqA K G vs ds) (hz : vs.length ≤ sizeLine) (k : ∀ (G' H' : Hp) (v : V) (Av A' : List Addr), Step A G H (Av ++ A') G' H' → Stt K m G' H' σ e A' → Own K G' H' .s (.tuple ds) (some v) Av → (Av ++ A').Nodup → Q v H') :
    NewT H vs Q := fun p o hc hd hp => by
  obtain ⟨s1, st1, sg⟩ := new_s (o := .frz o (.tup vs)) st hp
  have h' := h.mono sg
  exact k _ _ _ [] A s1 st1 (.s (.tup (.inl ⟨o, hc, hd, upd_same⟩) h'.1 hz h'.2)) st1.nd
theorem ownA_of {G H : Hp} : ∀ {vs : List V} {ds : List PyData}, DqA K G vs ds → OwnA K G H (List.replicate ds.length .s) ds (vs.map some) []
  | [], [], _ => .nil
  | v :: vs, d :: ds, h => OwnA.cons (A := []) (.s h.head) (ownA_of h.tail)
  | [], _ :: _, h => by have := h.1; simp at this
  | _ :: _, [], h => by have := h.1; simp at this
theorem of_ownA {G H : Hp} : ∀ {n : Nat} {vs : List V} {ds : List PyData} {A : List Addr}, OwnA K G H (List.replicate n .s) ds (vs.map some) A → A = [] ∧ DqA K G vs ds
  | 0, [], _, _, h => by cases h; exact ⟨rfl, DqA.nil⟩
  | 0, _ :: _, _, _, h => by cases h
  | n + 1, [], _, _, h => by cases h
  | n + 1, v :: vs, _, _, h => by
    cases h with
    | cons h1 h2 =>
      obtain ⟨e2, q2⟩ := of_ownA (n := n) h2
      cases h1 with
      | s h1 => subst e2; exact ⟨rfl, DqA.cons h1 q2⟩
/-- an answer in a new list, owned -/
theorem ans_lst (st : Stt K m G H σ e A) {vs : List V} {ds : List PyData} (h : DqA K G vs ds) (hz : vs.length ≤ sizeLine) (k : ∀ (G' H' : Hp) (v : V) (Av A' : List Addr), Step A G H (Av ++ A') G' H' → Stt K m G' H' σ e A' → Own K G' H' (.l .s) (.list ds) (some v) Av → (Av ++ A').Nodup → Q v H') :
    ∀ p, H p = none → Q (.ref p) (upd H p (.lst vs)) := fun p hp => by
  obtain ⟨s1, st1, nd, gp⟩ := new_o (o := .lst vs) (B := []) st hp
  exact k _ _ _ [p] A s1 st1 (.l gp upd_same hz (ownA_of h)) nd
end

/-! ### the data's side of expressions -/
def eVar (j : Nat) : Ef := fun e => some (e.getD j .none, e)
def eC (d : PyData) : Ef := fun e => some (d, e)
def e1 (g : PyData → Option PyData) (a : Ef) : Ef := fun e => (a e).bind fun p => (g p.1).bind fun r => some (r, p.2)
def e2 (g : PyData → PyData → Option PyData) (a b : Ef) : Ef := fun e => (a e).bind fun p => (b p.2).bind fun q => (g p.1 q.1).bind fun r => some (r, q.2)

section
variable {ι : Type} {Xf : ι → Cx} {P : Program} {w : World} {K : PySem.W.Frag} {mg : Str → Option Value} {base : Heap} {n : Nat} [F : Fam Xf P w K mg base n]
variable {m m1 m2 m3 : List Ty} {pos p p2 : Pos} {a b c : Expr} {f g h : Ef}

theorem pd_var (j : Nat) {x : Str} (hm : m[j]? = some .s := by rfl) (hN : ∀ i, (Xf i).N[j]? = some x := by intro _; rfl)
    (hv : ∀ i, Vis (Xf i).env.scope x := by first | (intro _; exact Or.inl rfl) | (intro _; exact Or.inr (Or.inl rfl)) | (intro _; exact Or.inr (Or.inr rfl))) (hd : (x == ("__debug__" : Str)) = false := by decide)
    (hcd : (x == ("__classdict__" : Str)) = false := by decide) : PD Xf K m (.Name x pos) .s (eVar j) m := by
  refine ⟨tVar j, fun i => pe_var (hN i) (hv i) hd hcd, fun {G H σ e A d e' Q} st hf k => ?_⟩
  obtain ⟨d', v, h1, h2, h3⟩ := ownA_getS st.own hm
  cases hf
  rw [List.getD_eq_getElem?_getD, h1] at k
  exact ⟨v, h2, ans_s st h3 k⟩
/-- an owned slot, read for good: frozen from here on -/
theorem pd_frzVar (j : Nat) {t : Ty} {x : Str} (hm : m[j]? = some t := by rfl) (hn : nou t = true := by rfl) (hN : ∀ i, (Xf i).N[j]? = some x := by intro _; rfl)
    (hv : ∀ i, Vis (Xf i).env.scope x := by first | (intro _; exact Or.inl rfl) | (intro _; exact Or.inr (Or.inl rfl)) | (intro _; exact Or.inr (Or.inr rfl))) (hd : (x == ("__debug__" : Str)) = false := by decide)
    (hcd : (x == ("__classdict__" : Str)) = false := by decide) : PD Xf K m (.Name x pos) .s (eVar j) (m.set j .s) := by
  refine ⟨tVar j, fun i => pe_var (hN i) (hv i) hd hcd, fun {G H σ e A d e' Q} st hf k => ?_⟩
  obtain ⟨G', A', s0, st2⟩ := stt_frz st hm hn
  obtain ⟨d', v, h1, h2, h3⟩ := ownA_getS st2.own (j := j) (by have := (List.getElem?_eq_some_iff.mp hm).1; simp [this])
  cases hf
  rw [List.getD_eq_getElem?_getD, h1] at k
  exact ⟨v, h2, k _ _ v [] A' s0 st2 (.s h3) st2.nd⟩

theorem pd_int {i : Int} {j} : PD Xf K m (.Constant (.int i) j pos) .s (eC (.int i)) m := ⟨_, fun _ => pe_int, fun {G H σ e A d e' Q} st hf k => by cases hf; exact ans_s st (.int i) k⟩
theorem pd_bool {i : Bool} {j} : PD Xf K m (.Constant (.bool i) j pos) .s (eC (.bool i)) m := ⟨_, fun _ => pe_bl, fun {G H σ e A d e' Q} st hf k => by cases hf; exact ans_s st (.bl i) k⟩
theorem pd_none {j} : PD Xf K m (.Constant .none j pos) .s (eC .none) m := ⟨_, fun _ => pe_non, fun {G H σ e A d e' Q} st hf k => by cases hf; exact ans_s st .non k⟩
theorem pd_str {x : Str} {j} (hx : x.length ≤ sizeLine := by decide +kernel) : PD Xf K m (.Constant (.str x) j pos) .s (eC (.str x)) m := ⟨_, fun _ => pe_str, fun {G H σ e A d e' Q} st hf k => by cases hf; exact ans_s st (.str x hx) k⟩

theorem DE.bin {r : R2} {ta tb : TE} {ty : Ty} {gg : PyData → PyData → Option PyData} (ha : DE K m ta .s f m1) (hb : DE K m1 tb .s g m2) (hr : D2 K r ty gg) : DE K m (tOp r ta tb) ty (e2 gg f g) m2 := by
  intro G H σ e A d e' Q st hf k
  unfold e2 at hf
  obtain ⟨⟨d1, e1⟩, hf1, hf⟩ := Option.bind_eq_some_iff.mp hf
  obtain ⟨⟨d2, e2⟩, hf2, hf⟩ := Option.bind_eq_some_iff.mp hf
  obtain ⟨d3, hf3, hf⟩ := Option.bind_eq_some_iff.mp hf
  cases hf
  refine ha st hf1 fun G1 H1 v1 A1 B1 s1 st1 o1 nd1 => ?_
  cases o1 with
  | s q1 =>
    refine hb st1 hf2 fun G2 H2 v2 A2 B2 s2 st2 o2 nd2 => ?_
    cases o2 with
    | s q2 => exact hr st2 (q1.mono s2.sg) q2 hf3 fun G3 H3 v3 A3 B3 s3 st3 o3 nd3 => k G3 H3 v3 A3 B3 ((s1.seq0 s2).seq0 s3) st3 o3 nd3
theorem DE.un {r : V → Hp → VK → Prop} {ta : TE} {ty : Ty} {gg : PyData → Option PyData} (ha : DE K m ta .s f m1) (hr : D1 K r ty gg) : DE K m (fun σ H Q => ta σ H fun x H1 => r x H1 Q) ty (e1 gg f) m1 := by
  intro G H σ e A d e' Q st hf k
  unfold e1 at hf
  obtain ⟨⟨d1, e1⟩, hf1, hf⟩ := Option.bind_eq_some_iff.mp hf
  obtain ⟨d3, hf3, hf⟩ := Option.bind_eq_some_iff.mp hf
  cases hf
  refine ha st hf1 fun G1 H1 v1 A1 B1 s1 st1 o1 nd1 => ?_
  cases o1 with
  | s q1 => exact hr st1 q1 hf3 fun G3 H3 v3 A3 B3 s3 st3 o3 nd3 => k G3 H3 v3 A3 B3 (s1.seq0 s3) st3 o3 nd3
theorem pd_bin {op : Operator} {ty : Ty} {gg : PyData → PyData → Option PyData} (ho : Op2 Xf K (binaryOp op) ty gg) (ha : PD Xf K m a .s f m1) (hb : PD Xf K m1 b .s g m2) : PD Xf K m (.BinOp a op b pos) ty (e2 gg f g) m2 := by
  obtain ⟨r, hr, dr⟩ := ho.ex
  obtain ⟨ta, pa, da⟩ := ha.ex
  obtain ⟨tb, pb, db⟩ := hb.ex
  exact ⟨_, fun i => pe_op (hr i) (pa i) (pb i), DE.bin da db dr⟩
theorem pd_cmp {op : CmpOp} {ty : Ty} {gg : PyData → PyData → Option PyData} (ho : Op2 Xf K (compareOp op) ty gg) (ha : PD Xf K m a .s f m1) (hb : PD Xf K m1 b .s g m2) (hm : behindInMarks op b = false := by first | exact nomark _ | rfl) : PD Xf K m (.Compare a [op] [b] pos) ty (e2 gg f g) m2 := by
  obtain ⟨r, hr, dr⟩ := ho.ex
  obtain ⟨ta, pa, da⟩ := ha.ex
  obtain ⟨tb, pb, db⟩ := hb.ex
  exact ⟨_, fun i => pe_cmpR (hr i) (pa i) (pb i) hm, DE.bin da db dr⟩
theorem pd_ix {ty : Ty} {gg : PyData → PyData → Option PyData} (ho : Ix2 Xf K ty gg) (ha : PD Xf K m a .s f m1) (hb : PD Xf K m1 b .s g m2) (hs : PlainIx b := by exact fun _ _ => rfl) : PD Xf K m (.Subscript a b pos) ty (e2 gg f g) m2 := by
  obtain ⟨r, hr, dr⟩ := ho.ex
  obtain ⟨ta, pa, da⟩ := ha.ex
  obtain ⟨tb, pb, db⟩ := hb.ex
  exact ⟨_, fun i => pe_ix (hr i) (pa i) (pb i) hs, DE.bin da db dr⟩
/-- what is owned and new, taken as stable -/
theorem pd_frz {ty : Ty} (ha : PD Xf K m a ty f m1) (hn : nou ty = true := by rfl) : PD Xf K m a .s f m1 := by
  obtain ⟨ta, pa, da⟩ := ha.ex
  refine ⟨ta, pa, fun {G H σ e A d e' Q} st hf k => da st hf fun G1 H1 v1 A1 B1 s1 st1 o1 nd1 => ?_⟩
  obtain ⟨s2, st2, sg, hl⟩ := frz st1 (own_at o1) nd1
  obtain ⟨x, hx, q⟩ := own_frz o1 sg hl hn
  cases hx
  have s0 : Step A G H ([] ++ B1) (lay G1 H1 A1) H1 := s1.seq0 s2
  exact k _ _ v1 [] B1 s0 st2 (.s q) st2.nd
end
end DL

namespace DL
open PySem L2 PySem.Spec

section
variable {X : Cx} {pins : List (Addr × Obj)} {σ : St} {H : Hp} {s : Shared}
theorem rdL (I : Inv X pins σ H s) {a : Addr} {xs : List V} (h : Rd H a (.lst xs)) : xs.length ≤ sizeLine ∧ ∃ (its : List Value) (n : Nat), Vals xs its ∧ s.heap.get? a = some { cls := .type "list", data := .seq its.toArray n } := h.ok I.hok
theorem rdD (I : Inv X pins σ H s) {a : Addr} {kvs : List (Str × Int)} (h : Rd H a (.dK (kvs.map fun p => (Sum.inr p.1, V.int p.2)))) :
    ∃ o es ep, s.heap.get? a = some o ∧ o.ExactDict ∧ o.data = .dict es ep ∧ Paired (fun (e : DictEntry) (p : Str × Int) => (∃ t, e.key = .str p.1 t) ∧ ∃ t, e.val = .int p.2 t) es.toList kvs ∧ (a == sysModules) = false := by
  have k : ∃ vs, KV (kvs.map fun p => ((Sum.inr p.1 : Key), V.int p.2)) vs ∧ s.heap.DictOf (mixKind X.prog X.w) a vs := by
    rcases h with h | ⟨o, h⟩
    · obtain ⟨_, _, vs, r, m⟩ : _ ∧ (a == sysModules) = false ∧ ∃ vs, KV _ vs ∧ s.heap.DictOf (mixKind X.prog X.w) a vs := I.hok a _ h
      exact ⟨vs, r, m⟩
    · obtain ⟨_, _, _, vs, r, m⟩ : _ ∧ (_ ∧ (a == sysModules) = false ∧ ∃ vs, KV _ vs ∧ s.heap.DictOf (mixKind X.prog X.w) a vs) := I.hok a _ h
      exact ⟨vs, r, m⟩
  have hne : (a == sysModules) = false := by
    rcases h with h | ⟨o, h⟩
    · obtain ⟨_, z, _⟩ : _ ∧ (a == sysModules) = false ∧ ∃ vs, KV _ vs ∧ s.heap.DictOf (mixKind X.prog X.w) a vs := I.hok a _ h
      exact z
    · obtain ⟨_, _, z, _⟩ : _ ∧ (_ ∧ (a == sysModules) = false ∧ ∃ vs, KV _ vs ∧ s.heap.DictOf (mixKind X.prog X.w) a vs) := I.hok a _ h
      exact z
  obtain ⟨vs, r, o, es, ep, h1, h2, h3, h4, h5, h6⟩ := k
  clear h4 h6
  refine ⟨o, es, ep, h1, h2, h3, ?_, hne⟩
  generalize es.toList = el at h5
  clear h1 h2 h3 hne h
  revert r
  induction h5 generalizing kvs with
  | nil =>
    intro r
    cases kvs with
    | nil => exact .nil
    | cons p kvs => cases r
  | @cons e kv es' kvs' hk hv _ ih =>
    intro r
    cases kvs with
    | nil => cases r
    | cons p kvs =>
      cases r with
      | cons h t =>
        obtain ⟨ha, hb⟩ := h
        refine .cons ⟨?_, ?_⟩ (ih t)
        · have hk' : keyIs (Sum.inr p.1) e.key = true := by rw [← ha] at hk; exact hk
          rcases keyIs_shape hk' with ⟨i, t, z, _⟩ | ⟨x, t, z, q⟩
          · cases z
          · cases z; exact ⟨t, q⟩
        · obtain ⟨t, q⟩ := hb
          exact ⟨t, by rw [hv, q]⟩
theorem readsKV_of {h : Heap} : ∀ {es : List DictEntry} {kvs : List (Str × Int)}, Paired (fun (e : DictEntry) (p : Str × Int) => (∃ t, e.key = .str p.1 t) ∧ ∃ t, e.val = .int p.2 t) es kvs →
    ∃ as, ReadsAll h (es.map (·.key)) (kvs.map fun p => PyData.str p.1) as ∧ ∃ bs, ReadsAll h (es.map (·.val)) (kvs.map fun p => PyData.int p.2) bs
  | [], [], .nil => ⟨_, .nil, _, .nil⟩
  | e :: es, p :: kvs, .cons h t => by
    obtain ⟨⟨t1, h1⟩, t2, h2⟩ := h
    obtain ⟨as, k1, bs, k2⟩ := readsKV_of t
    refine ⟨[] ++ as, ?_, [] ++ bs, ?_⟩
    · rw [List.map_cons, List.map_cons, h1]; exact .cons (.str _ _) k1
    · rw [List.map_cons, List.map_cons, h2]; exact .cons (.int _ _) k2
theorem readsAll_of {P : V → PyData → Prop} (hp : ∀ v d u, P v d → RelV v u → ∃ as, Reads s.heap u d as) : ∀ {xs : List V} {ds : List PyData} {us : List Value}, xs.length = ds.length → (∀ (i : Nat) v d, xs[i]? = some v → ds[i]? = some d → P v d) → Vals xs us → ∃ as, ReadsAll s.heap us ds as
  | [], [], _, _, _, .nil => ⟨_, .nil⟩
  | v :: vs, d :: ds, _, hl, h, .cons r rs => by
    obtain ⟨as, q⟩ := hp v d _ (h 0 v d rfl rfl) r
    obtain ⟨bs, qs⟩ := readsAll_of hp (xs := vs) (ds := ds) (by simpa using hl) (fun i v d a b => h (i + 1) v d (by simpa using a) (by simpa using b)) rs
    exact ⟨_, .cons q qs⟩
  | [], _ :: _, _, hl, _, _ => by simp at hl
  | _ :: _, [], _, hl, _, _ => by simp at hl
theorem Dq.reads (I : Inv X pins σ H s) {v : V} {d : PyData} (h : Dq X.K H v d) : ∀ {u : Value}, RelV v u → ∃ as, Reads s.heap u d as := by
  induction h with
  | non => intro u r; cases r; exact ⟨_, .none⟩
  | bl b => intro u r; cases r; exact ⟨_, .bool b⟩
  | int i => intro u r; obtain ⟨t, rfl⟩ := r; exact ⟨_, .int i t⟩
  | str x _ => intro u r; obtain ⟨t, rfl⟩ := r; exact ⟨_, .str x t⟩
  | lst hs hl hz _ ih =>
    intro u r
    cases r
    obtain ⟨_, its, n, rv, ho⟩ := rdL I hs
    obtain ⟨as, q⟩ := readsAll_of (P := fun v d => ∀ {u : Value}, RelV v u → ∃ as, Reads s.heap u d as) (fun v d u h r => h r) hl (fun i v d a b => ih i v d a b) rv
    exact ⟨_, Reads.list ho rfl rfl q⟩
  | tup hs hl hz _ ih =>
    intro u r
    cases r
    obtain ⟨its, rv, ⟨o, ho, hc, n, hd⟩, _⟩ := I.tuple hs.sq
    obtain ⟨as, q⟩ := readsAll_of (P := fun v d => ∀ {u : Value}, RelV v u → ∃ as, Reads s.heap u d as) (fun v d u h r => h r) hl (fun i v d a b => ih i v d a b) rv
    exact ⟨_, Reads.tuple ho hc hd q⟩
  | @dic a kvs hs hz _ =>
    intro u r
    cases r
    obtain ⟨o, es, ep, ho, hx, hd, hp, _⟩ := rdD I hs
    obtain ⟨as, h1, bs, h2⟩ := readsKV_of (h := s.heap) hp
    exact ⟨_, Reads.dict (as := as) (bs := bs) ho hx.1 hd (by rw [List.map_map]; exact h1) (by rw [List.map_map]; exact h2)⟩
theorem DqA.reads (I : Inv X pins σ H s) {xs : List V} {ds : List PyData} (h : DqA X.K H xs ds) {us : List Value} (r : Vals xs us) : ∃ as, ReadsAll s.heap us ds as :=
  readsAll_of (P := fun v d => Dq X.K H v d) (fun v d u h r => h.reads I r) h.1 h.2 r
theorem dq_mem {K : PySem.W.Frag} {G : Hp} {xs : List V} {ds : List PyData} (h : DqA K G xs ds) {d : PyData} (hd : d ∈ ds) : ∃ v, Dq K G v d := by
  obtain ⟨i, hi⟩ := List.mem_iff_getElem?.mp hd
  obtain ⟨v, _, q⟩ := h.get hi
  exact ⟨v, q⟩
theorem fits_of {K : PySem.W.Frag} {G : Hp} {v : V} {d : PyData} (h : Dq K G v d) : d.fits63 := by
  cases h with
  | non => trivial
  | bl => trivial
  | int => trivial
  | str x hx => have : sizeLine < 2 ^ 63 := by decide
                simp only [PyData.fits63]; omega
  | lst _ hl hz _ => have : sizeLine < 2 ^ 63 := by decide
                     simp only [PyData.fits63]; omega
  | tup _ hl hz _ => have : sizeLine < 2 ^ 63 := by decide
                     simp only [PyData.fits63]; omega
  | dic _ hz _ => simp only [PyData.fits63, List.length_map]
end

/-! ### two stable values in, a scalar out -/
/-- a scalar as a value -/
def scV : PyData → Option V
  | .none => some .non
  | .bool b => some (.bl b)
  | .int i => some (.int i)
  | _ => none
theorem scV_dq {K : PySem.W.Frag} {G : Hp} {d : PyData} {v : V} (h : scV d = some v) : Dq K G v d := by
  cases d with
  | none => cases h; exact .non
  | bool b => cases h; exact .bl b
  | int i => cases h; exact .int i
  | _ => cases h
def r2S (K : PySem.W.Frag) (g : PyData → PyData → Option PyData) : R2 := fun x y H Q => ∃ dx dy d v, Dq K H x dx ∧ Dq K H y dy ∧ g dx dy = some d ∧ scV d = some v ∧ Q v H
theorem d2S {K : PySem.W.Frag} {g : PyData → PyData → Option PyData} (hg : ∀ a b d, g a b = some d → ∃ v, scV d = some v) : D2 K (r2S K g) .s g := fun st hx hy e k => by
  obtain ⟨v, hv⟩ := hg _ _ _ e
  exact ⟨_, _, _, v, hx.mono st.sub, hy.mono st.sub, e, hv, ans_s st (scV_dq hv) k⟩
def dep (a b : PyData) : Bool := decide (min a.depth b.depth ≤ 60)
/-- the right side is an empty row of the left side's own kind -/
def nilR (a b : PyData) : Bool := match a, b with
  | .tuple _, .tuple [] => true
  | .list _, .list [] => true
  | _, _ => false
def pln (a b : PyData) : Bool := (a.plain && b.plain) || nilR a b
def gEq (a b : PyData) : Option PyData := if (dep a b && pln a b) = true then some (.bool (PyData.eqv a b)) else none
def gNe (a b : PyData) : Option PyData := if (dep a b && pln a b) = true then some (.bool (!PyData.eqv a b)) else none
def cmpOk (a b : PyData) : Bool := PySem.W.alike a b && (match a with | .none => false | _ => true) && dep a b
def gLt : PyData → PyData → Option PyData
  | .int i, .int j => some (.bool (decide (i < j)))
  | a, b => if cmpOk a b = true then some (.bool (PySem.W.dataLt a b)) else none
def gGt : PyData → PyData → Option PyData
  | .int i, .int j => some (.bool (decide (j < i)))
  | a, b => if cmpOk a b = true then some (.bool (PySem.W.dataLt b a)) else none
def gLe : PyData → PyData → Option PyData
  | .int i, .int j => some (.bool (decide (i ≤ j)))
  | a, b => if cmpOk a b = true then some (.bool (!PySem.W.dataLt b a)) else none
def gGe : PyData → PyData → Option PyData
  | .int i, .int j => some (.bool (decide (j ≤ i)))
  | a, b => if cmpOk a b = true then some (.bool (!PySem.W.dataLt a b)) else none
/-- `a is b` where b is None or a truth value -/
def isTD : PyData → PyData → Option Bool
  | .none, .none => some true
  | _, .none => some false
  | .bool a, .bool b => some (a == b)
  | _, .bool _ => some false
  | _, _ => none
def gIs (a b : PyData) : Option PyData := (isTD a b).map .bool
def gIsNot (a b : PyData) : Option PyData := (isTD a b).map fun k => .bool (!k)
def gNotIn (x : PyData) : PyData → Option PyData
  | .list ys => if (decide (min (PyData.depthAll ys) x.depth ≤ 60) && (PyData.plainAll ys && x.plain)) = true then some (.bool (!ys.any fun y => PyData.eqv y x)) else none
  | .tuple ys => if (decide (min (PyData.depthAll ys) x.depth ≤ 60) && (PyData.plainAll ys && x.plain)) = true then some (.bool (!ys.any fun y => PyData.eqv y x)) else none
  | _ => none

theorem hu60 {A : Around} {k n : Nat} (hr : RoomU n A) (h : k ≤ 60) : A.units + 1 + k < cLine := by have := hr.un; omega
theorem ite_some {α : Type} {c : Prop} [Decidable c] {a b : α} (h : (if c then some a else none) = some b) : c ∧ a = b := by
  split at h
  · rename_i hc; exact ⟨hc, Option.some.inj h⟩
  · cases h
theorem RelV.sc {d : PyData} {v : V} (h : scV d = some v) : True := trivial
theorem boolE {X : Cx} {pins : List (Addr × Obj)} {σ : St} {H : Hp} {s : Shared} {Q : VK} (I : Inv X pins σ H s) {b : Bool} {v : V} (h : scV (.bool b) = some v) (q : Q v H) : EP X pins σ Q (.bool b) s := by
  cases h
  exact ⟨.bl b, H, I, rfl, q⟩
theorem dep_ok {a b : PyData} (h : (dep a b && pln a b) = true) : min a.depth b.depth ≤ 60 ∧ ((a.plain = true ∧ b.plain = true) ∨ nilR a b = true) := by
  unfold dep pln at h
  simp only [Bool.and_eq_true, Bool.or_eq_true, decide_eq_true_eq] at h
  exact h
theorem rcN_nil {da db : PyData} {A : Around} {s : Shared} {a b : Value} {as bs : List Addr} (ra : Reads s.heap a da as) (rb : Reads s.heap b db bs) (hu : A.units + min da.depth db.depth < cLine) (h : nilR da db = true) :
    SeqAt.RcAt A s a b (PyData.eqv da db) ∧ SeqAt.RcNeAt A s a b (!PyData.eqv da db) := by
  cases ra with
  | @tuple a1 o1 vs n1 xs ds h1 h2 h3 h4 =>
    cases rb with
    | @tuple a2 o2 us n2 ys cs k1 k2 k3 k4 =>
      cases ys with
      | cons y ys => simp [nilR] at h
      | nil =>
        have e1 : vs.size = xs.length := by simpa using SeqAt.ReadsAll.length _ _ _ h4
        have e2 : us.size = ([] : List PyData).length := by simpa using SeqAt.ReadsAll.length _ _ _ k4
        have he : ∀ j (j1 : j < vs.size) (j2 : j < us.size), SeqAt.EqAt A.in1 s vs[j] us[j] (SeqAt.pairEq xs [] j) := fun j _ j2 => by rw [e2] at j2; cases j2
        show SeqAt.RcAt A s (.ref a1) (.ref a2) (PyData.eqvAll xs []) ∧ SeqAt.RcNeAt A s (.ref a1) (.ref a2) (!PyData.eqvAll xs [])
        rw [← SeqAt.eqvAll_eq xs [], ← e1, ← e2]
        exact ⟨SeqAt.RcAt.tuples ⟨_, h1, h2, _, h3⟩ ⟨_, k1, k2, _, k3⟩ (SeqAt.room_here hu) he, SeqAt.RcNeAt.tuples ⟨_, h1, h2, _, h3⟩ ⟨_, k1, k2, _, k3⟩ (SeqAt.room_here hu) he⟩
    | _ => simp [nilR] at h
  | @list a1 o1 vs n1 xs ds h1 h2 h3 h4 =>
    cases rb with
    | @list a2 o2 us n2 ys cs k1 k2 k3 k4 =>
      cases ys with
      | cons y ys => simp [nilR] at h
      | nil =>
        have e1 : vs.size = xs.length := by simpa using SeqAt.ReadsAll.length _ _ _ h4
        have e2 : us.size = 0 := by simpa using SeqAt.ReadsAll.length _ _ _ k4
        show SeqAt.RcAt A s (.ref a1) (.ref a2) (PyData.eqvAll xs []) ∧ SeqAt.RcNeAt A s (.ref a1) (.ref a2) (!PyData.eqvAll xs [])
        cases xs with
        | nil =>
          have he : ∀ j (j1 : j < vs.size) (j2 : j < us.size), SeqAt.EqAt A.in1 s vs[j] us[j] (SeqAt.pairEq [] [] j) := fun j _ j2 => by rw [e2] at j2; cases j2
          have z : vs.size = us.size := by rw [e1, e2]; rfl
          rw [← SeqAt.eqvAll_same_length (show ([] : List PyData).length = ([] : List PyData).length from rfl)]
          have e3 : ([] : List PyData).length = vs.size := e1.symm
          rw [e3]
          exact ⟨SeqAt.RcAt.lists ⟨_, h1, h2, _, h3⟩ ⟨_, k1, k2, _, k3⟩ z (SeqAt.room_here hu) he, SeqAt.RcNeAt.lists ⟨_, h1, h2, _, h3⟩ ⟨_, k1, k2, _, k3⟩ z (SeqAt.room_here hu) he⟩
        | cons x xs =>
          have z : vs.size ≠ us.size := by rw [e1, e2, List.length_cons]; omega
          rw [SeqAt.eqvAll_other_length (by simp : (x :: xs).length ≠ ([] : List PyData).length)]
          exact ⟨SeqAt.RcAt.lists_lengths ⟨_, h1, h2, _, h3⟩ ⟨_, k1, k2, _, k3⟩ (by simpa using z) (SeqAt.room_here hu), SeqAt.RcNeAt.lists_lengths ⟨_, h1, h2, _, h3⟩ ⟨_, k1, k2, _, k3⟩ (by simpa using z) (SeqAt.room_here hu)⟩
    | _ => simp [nilR] at h
  | _ => simp [nilR] at h
theorem in_ok {xs : List PyData} {d : PyData} (h : (decide (min (PyData.depthAll xs) d.depth ≤ 60) && (PyData.plainAll xs && d.plain)) = true) : min (PyData.depthAll xs) d.depth ≤ 60 ∧ PyData.plainAll xs = true ∧ d.plain = true := by
  simp only [Bool.and_eq_true, decide_eq_true_eq] at h
  exact h
theorem cmp_ok {a b : PyData} (h : cmpOk a b = true) : PySem.W.alike a b = true ∧ a ≠ .none ∧ min a.depth b.depth ≤ 60 := by
  unfold cmpOk at h
  simp only [Bool.and_eq_true] at h
  refine ⟨h.1.1, fun e => ?_, of_decide_eq_true h.2⟩
  subst e
  have := h.1.2
  simp at this

section
variable {ι : Type} {Xf : ι → Cx} {P : Program} {w : World} {K : PySem.W.Frag} {mg : Str → Option Value} {base : Heap} {n : Nat} [F : Fam Xf P w K mg base n]
include F
theorem op_eqG' (i : ι) : OpR (Xf i) (compareOp .Eq) (r2S K gEq) := by
  intro pins s σ H x y v u Q I rx ry h
  obtain ⟨dx, dy, d, z, hx, hy, e, hz, q⟩ := h
  rw [← F.kk i] at hx hy
  obtain ⟨as, r1⟩ := hx.reads I rx
  obtain ⟨bs, r2⟩ := hy.reads I ry
  obtain ⟨hd, rfl⟩ := ite_some e
  have hu : (Xf i).A.units + min dx.depth dy.depth < cLine := by have := hu60 (F.room i) (dep_ok hd).1; omega
  rcases (dep_ok hd).2 with hp | hn
  · exact PySem.SeqAt.eq_plain r1 r2 hp.1 hp.2 hu (boolE I hz q)
  · exact (rcN_nil r1 r2 hu hn).1 _ _ _ _ (boolE I hz q)
theorem op_neG' (i : ι) : OpR (Xf i) (compareOp .NotEq) (r2S K gNe) := by
  intro pins s σ H x y v u Q I rx ry h
  obtain ⟨dx, dy, d, z, hx, hy, e, hz, q⟩ := h
  rw [← F.kk i] at hx hy
  obtain ⟨as, r1⟩ := hx.reads I rx
  obtain ⟨bs, r2⟩ := hy.reads I ry
  obtain ⟨hd, rfl⟩ := ite_some e
  have hu : (Xf i).A.units + min dx.depth dy.depth < cLine := by have := hu60 (F.room i) (dep_ok hd).1; omega
  rcases (dep_ok hd).2 with hp | hn
  · exact PySem.SeqAt.ne_plain r1 r2 hp.1 hp.2 hu (boolE I hz q)
  · exact (rcN_nil r1 r2 hu hn).2 _ _ _ _ (boolE I hz q)
theorem op_ltG' (i : ι) : OpR (Xf i) (compareOp .Lt) (r2S K gLt) := by
  intro pins s σ H x y v u Q I rx ry h
  obtain ⟨dx, dy, d, z, hx, hy, e, hz, q⟩ := h
  rw [← F.kk i] at hx hy
  obtain ⟨as, r1⟩ := hx.reads I rx
  obtain ⟨bs, r2⟩ := hy.reads I ry
  unfold gLt at e
  split at e
  · cases e
    exact PySem.W.lt_data r1 r2 rfl (fun z => nomatch z) (by have := hu60 (F.room i) (k := 0) (by omega); simp only [PyData.depth]; omega) (by rw [PySem.W.dataLt_int]; exact boolE I hz q)
  · obtain ⟨hd, rfl⟩ := ite_some e
    obtain ⟨h1, h2, h3⟩ := cmp_ok hd
    exact PySem.W.lt_data r1 r2 h1 h2 (by have := hu60 (F.room i) h3; omega) (boolE I hz q)
theorem op_gtG' (i : ι) : OpR (Xf i) (compareOp .Gt) (r2S K gGt) := by
  intro pins s σ H x y v u Q I rx ry h
  obtain ⟨dx, dy, d, z, hx, hy, e, hz, q⟩ := h
  rw [← F.kk i] at hx hy
  obtain ⟨as, r1⟩ := hx.reads I rx
  obtain ⟨bs, r2⟩ := hy.reads I ry
  unfold gGt at e
  split at e
  · cases e
    exact PySem.W.gt_data r1 r2 rfl (fun z => nomatch z) (by have := hu60 (F.room i) (k := 0) (by omega); simp only [PyData.depth]; omega) (by rw [PySem.W.dataLt_int]; exact boolE I hz q)
  · obtain ⟨hd, rfl⟩ := ite_some e
    obtain ⟨h1, h2, h3⟩ := cmp_ok hd
    exact PySem.W.gt_data r1 r2 h1 h2 (by have := hu60 (F.room i) h3; omega) (boolE I hz q)
theorem op_leG' (i : ι) : OpR (Xf i) (compareOp .LtE) (r2S K gLe) := by
  intro pins s σ H x y v u Q I rx ry h
  obtain ⟨dx, dy, d, z, hx, hy, e, hz, q⟩ := h
  rw [← F.kk i] at hx hy
  obtain ⟨as, r1⟩ := hx.reads I rx
  obtain ⟨bs, r2⟩ := hy.reads I ry
  unfold gLe at e
  split at e
  · cases e
    exact PySem.W.le_data r1 r2 rfl (fun z => nomatch z) (by have := hu60 (F.room i) (k := 0) (by omega); simp only [PyData.depth]; omega) (by rw [PySem.W.dataLt_int, PySem.W.not_lt_int]; exact boolE I hz q)
  · obtain ⟨hd, rfl⟩ := ite_some e
    obtain ⟨h1, h2, h3⟩ := cmp_ok hd
    exact PySem.W.le_data r1 r2 h1 h2 (by have := hu60 (F.room i) h3; omega) (boolE I hz q)
theorem op_geG' (i : ι) : OpR (Xf i) (compareOp .GtE) (r2S K gGe) := by
  intro pins s σ H x y v u Q I rx ry h
  obtain ⟨dx, dy, d, z, hx, hy, e, hz, q⟩ := h
  rw [← F.kk i] at hx hy
  obtain ⟨as, r1⟩ := hx.reads I rx
  obtain ⟨bs, r2⟩ := hy.reads I ry
  unfold gGe at e
  split at e
  · cases e
    exact PySem.W.ge_data r1 r2 rfl (fun z => nomatch z) (by have := hu60 (F.room i) (k := 0) (by omega); simp only [PyData.depth]; omega) (by rw [PySem.W.dataLt_int, PySem.W.not_lt_int]; exact boolE I hz q)
  · obtain ⟨hd, rfl⟩ := ite_some e
    obtain ⟨h1, h2, h3⟩ := cmp_ok hd
    exact PySem.W.ge_data r1 r2 h1 h2 (by have := hu60 (F.room i) h3; omega) (boolE I hz q)
theorem op_notInG' (i : ι) : OpR (Xf i) (compareOp .NotIn) (r2S K gNotIn) := by
  intro pins s σ H x y v u Q I rx ry h
  obtain ⟨dx, dy, d, z, hx, hy, e, hz, q⟩ := h
  rw [← F.kk i] at hx hy
  obtain ⟨as, r1⟩ := hx.reads I rx
  obtain ⟨bs, r2⟩ := hy.reads I ry
  unfold gNotIn at e
  split at e
  · obtain ⟨hd, rfl⟩ := ite_some e
    exact PySem.SeqAt.notIn_list_data r2 r1 (in_ok hd).2.1 (in_ok hd).2.2 (hu60 (F.room i) (in_ok hd).1) (boolE I hz q)
  · obtain ⟨hd, rfl⟩ := ite_some e
    exact PySem.SeqAt.notIn_tuple_data r2 r1 (in_ok hd).2.1 (in_ok hd).2.2 (hu60 (F.room i) (in_ok hd).1) (boolE I hz q)
  · cases e
omit F in
theorem isTD_ok {G : Hp} {x y : V} {v u : Value} {dx dy : PyData} {b : Bool} (hx : Dq K G x dx) (hy : Dq K G y dy) (rx : RelV x v) (ry : RelV y u) (e : isTD dx dy = some b) : plainIs v u = true ∧ (v == u) = b := by
  cases hy with
  | non =>
    cases ry
    cases hx <;> (first | (cases rx; cases e; exact ⟨rfl, by simp⟩) | (obtain ⟨t, rfl⟩ := rx; cases e; exact ⟨rfl, by simp⟩) | (simp only [isTD] at e; cases e; cases rx; exact ⟨rfl, rfl⟩))
  | bl c =>
    cases ry
    cases hx <;> (first | (obtain ⟨t, rfl⟩ := rx; cases e; exact ⟨rfl, by simp⟩) | (cases rx; cases e; exact ⟨rfl, by simp⟩) | (rename_i b'; cases rx; cases e; cases b' <;> cases c <;> exact ⟨rfl, rfl⟩))
  | _ => cases hx <;> simp [isTD] at e
theorem op_isG' (i : ι) : OpR (Xf i) (compareOp .Is) (r2S K gIs) := by
  intro pins s σ H x y v u Q I rx ry h
  obtain ⟨dx, dy, d, z, hx, hy, e, hz, q⟩ := h
  obtain ⟨b, e1, rfl⟩ := Option.map_eq_some_iff.mp e
  obtain ⟨h1, h2⟩ := isTD_ok hx hy rx ry e1
  exact wpAny_is_plain h1 (by rw [h2]; exact boolE I hz q)
theorem opEq : Op2 Xf K (compareOp .Eq) .s gEq := ⟨_, op_eqG', d2S fun a b d e => by obtain ⟨_, rfl⟩ := ite_some e; exact ⟨_, rfl⟩⟩
theorem opNe : Op2 Xf K (compareOp .NotEq) .s gNe := ⟨_, op_neG', d2S fun a b d e => by obtain ⟨_, rfl⟩ := ite_some e; exact ⟨_, rfl⟩⟩
theorem opLt : Op2 Xf K (compareOp .Lt) .s gLt := ⟨_, op_ltG', d2S fun a b d e => by
  unfold gLt at e; split at e
  · cases e; exact ⟨_, rfl⟩
  · obtain ⟨_, rfl⟩ := ite_some e; exact ⟨_, rfl⟩⟩
theorem opGt : Op2 Xf K (compareOp .Gt) .s gGt := ⟨_, op_gtG', d2S fun a b d e => by
  unfold gGt at e; split at e
  · cases e; exact ⟨_, rfl⟩
  · obtain ⟨_, rfl⟩ := ite_some e; exact ⟨_, rfl⟩⟩
theorem opLe : Op2 Xf K (compareOp .LtE) .s gLe := ⟨_, op_leG', d2S fun a b d e => by
  unfold gLe at e; split at e
  · cases e; exact ⟨_, rfl⟩
  · obtain ⟨_, rfl⟩ := ite_some e; exact ⟨_, rfl⟩⟩
theorem opGe : Op2 Xf K (compareOp .GtE) .s gGe := ⟨_, op_geG', d2S fun a b d e => by
  unfold gGe at e; split at e
  · cases e; exact ⟨_, rfl⟩
  · obtain ⟨_, rfl⟩ := ite_some e; exact ⟨_, rfl⟩⟩
theorem opIs : Op2 Xf K (compareOp .Is) .s gIs := ⟨_, op_isG', d2S fun a b d e => by
  obtain ⟨k, _, rfl⟩ := Option.map_eq_some_iff.mp e; exact ⟨_, rfl⟩⟩
theorem opNotIn : Op2 Xf K (compareOp .NotIn) .s gNotIn := ⟨_, op_notInG', d2S fun a b d e => by
  unfold gNotIn at e; split at e
  · obtain ⟨_, rfl⟩ := ite_some e; exact ⟨_, rfl⟩
  · obtain ⟨_, rfl⟩ := ite_some e; exact ⟨_, rfl⟩
  · cases e⟩
end
end DL

namespace DL
open PySem L2 PySem.Spec

/-! ### arithmetic -/
def rCatR : R2 := fun x y H Q => ∃ l b xs zs, x = .ref l ∧ y = .ref b ∧ Rd H l (.lst xs) ∧ Rd H b (.lst zs) ∧ xs.length + zs.length ≤ sizeLine ∧ ∀ p, H p = none → Q (.ref p) (upd H p (.lst (xs ++ zs)))
theorem op_catR {X : Cx} : OpR X (binaryOp .Add) rCatR := by
  intro pins s σ H x y v u Q I rx ry h
  obtain ⟨l, b, xs, zs, rfl, rfl, hH, hB, hz, q⟩ := h
  cases rx
  cases ry
  obtain ⟨z, its, n, r, e⟩ := rdL I hH
  obtain ⟨z2, its2, n2, r2, e2⟩ := rdL I hB
  have hl := r.length
  have hl2 := r2.length
  refine PySem.P.add_list e e2 ?_ (by rw [List.size_toArray, List.size_toArray]; omega)
  have ea : its.toArray ++ its2.toArray = (its ++ its2).toArray := by simp
  rw [ea]
  exact ⟨.ref _, _, I.lnew (t' := s.toks) (r.append r2) (by rw [List.length_append]; omega), rfl, q _ I.fresh⟩
def rRepR : R2 := fun x y H Q => ∃ l k xs, x = .ref l ∧ y = .int k ∧ Rd H l (.lst xs) ∧ -(2 ^ 63) ≤ k ∧ k < 2 ^ 63 ∧ xs.length * k.toNat ≤ sizeLine ∧
  ∀ p, H p = none → Q (.ref p) (upd H p (.lst (List.replicate k.toNat xs).flatten))
theorem op_repR {X : Cx} : OpR X (binaryOp .Mult) rRepR := by
  intro pins s σ H x y v u Q I rx ry h
  obtain ⟨l, k, xs, rfl, rfl, hH, h1, h2, hz, q⟩ := h
  cases rx
  obtain ⟨t, rfl⟩ := ry
  obtain ⟨z, its, n, r, e⟩ := rdL I hH
  have hl := r.length
  have hlen : its.toArray.size * k.toNat ≤ sizeLine := by rw [List.size_toArray, ← hl]; exact hz
  have hcap : ¬ its.toArray.size * k.toNat > (2 ^ 63 - 1) / 8 := by
    have : (sizeLine : Nat) ≤ (2 ^ 63 - 1) / 8 := by decide
    omega
  have hfit : ¬ (!Builtin.List.listFitsIndex k) = true := by
    rw [fitsIndex_both h1 h2]
    exact Bool.false_ne_true
  have hlong : ¬ Builtin.List.listTooLong (its.toArray.size * k.toNat) = true := by
    rw [notLongL hlen]
    exact Bool.false_ne_true
  have hnew : List.foldl (fun x1 x2 => x1 ++ x2) #[] (List.replicate (if its.toArray.isEmpty = true then 0 else k.toNat) its.toArray) = (List.replicate k.toNat its).flatten.toArray := by
    have f0 : ∀ m : Nat, List.foldl (fun x1 x2 => x1 ++ x2) #[] (List.replicate m its.toArray) = (List.replicate m its).flatten.toArray := fun m => by
      have := foldl_rep its m []
      rw [List.nil_append] at this
      exact this
    rw [f0]
    cases its with
    | nil => simp
    | cons a r' => simp
  refine wpAny_binaryOp_repeat_ref (T := "list") (U := "int") (by decide) ⟨_, e, rfl⟩ (fun s' => typeIs_int s' k t) noFill_list_mul F.fills_int_mul F.slot_int_rmul repeat_list F.slot_int_index.lookup
    (call_meets F.slot_int_rmul (typeIs_int s k t) F.entry_int_rmul (F.args_int_rmul_2 _ _) (int___rmul___int_list k t l its.toArray n)
      ⟨e, rfl, ⟨_, e, rfl⟩, call_meets F.slot_list_mul ⟨_, e, rfl⟩ F.entry_list_mul (F.args_list_mul_2 _ _) (AutoListH.list___mul___list_int_3 l its.toArray n k t hfit hcap hlong) ⟨e, ?_⟩⟩)
  rw [hnew]
  exact ⟨.ref _, _, I.lnew (t' := s.toks) (r.rep k.toNat) (by rw [PyProof.Rows.lm_len_rep_flat, Nat.mul_comm]; exact hz), rfl, q _ I.fresh⟩

/-! ### True + 1 -/
def bI (b : Bool) : Int := if b = true then 1 else 0
theorem gv_addB (b : Bool) (j : Int) (t : Tok) : Gives (Builtin.«int.__add__» ⟨[.bool b, .int j t], []⟩) (.int (bI b + j)) :=
  .of_wp fun M A E s Q h => by
    obtain ⟨hp, g, d, tk, os⟩ := s
    wp_walk
    exact ⟨_, rfl, h⟩
theorem gv_subB (b : Bool) (j : Int) (t : Tok) : Gives (Builtin.«int.__sub__» ⟨[.bool b, .int j t], []⟩) (.int (bI b - j)) :=
  .of_wp fun M A E s Q h => by
    obtain ⟨hp, g, d, tk, os⟩ := s
    wp_walk
    exact ⟨_, rfl, h⟩
def rBI (g : Int → Int → Int) : R2 := fun x y H Q => ∃ b j, x = .bl b ∧ y = .int j ∧ Q (.int (g (bI b) j)) H
theorem op_addBI {X : Cx} : OpR X (binaryOp .Add) (rBI fun i j => i + j) := by
  intro pins s σ H x y v u Q I rx ry h
  obtain ⟨b, j, rfl, rfl, q⟩ := h
  cases rx
  obtain ⟨t, rfl⟩ := ry
  exact binaryOp_left_gives (op := .Add) (T := "bool") (U := "int") (by decide) rfl (fun s' => typeIs_int s' j t) F.fills_bool_add F.fills_int_add F.sub_int_bool F.slot_bool_add F.slot_int_radd F.entry_int_add (F.args_int_add_2 _ _) (gv_addB b j t) trivial
    ⟨.int (bI b + j), H, I.tok _, ⟨_, rfl⟩, q⟩
theorem op_subBI {X : Cx} : OpR X (binaryOp .Sub) (rBI fun i j => i - j) := by
  intro pins s σ H x y v u Q I rx ry h
  obtain ⟨b, j, rfl, rfl, q⟩ := h
  cases rx
  obtain ⟨t, rfl⟩ := ry
  exact binaryOp_left_gives (op := .Sub) (T := "bool") (U := "int") (by decide) rfl (fun s' => typeIs_int s' j t) F.fills_bool_sub F.fills_int_sub F.sub_int_bool F.slot_bool_sub F.slot_int_rsub F.entry_int_sub (F.args_int_sub_2 _ _) (gv_subB b j t) trivial
    ⟨.int (bI b - j), H, I.tok _, ⟨_, rfl⟩, q⟩
def gAdd : PyData → PyData → Option PyData
  | .int i, .int j => some (.int (i + j))
  | .bool b, .int j => some (.int (bI b + j))
  | .str i, .str j => if i.length + j.length ≤ sizeLine then some (.str (i ++ j)) else none
  | .tuple a, .tuple b => if a.length + b.length ≤ sizeLine then some (.tuple (a ++ b)) else none
  | .list a, .list b => if a.length + b.length ≤ sizeLine then some (.list (a ++ b)) else none
  | _, _ => none
def gAddL : PyData → PyData → Option PyData
  | .list a, .list b => if a.length + b.length ≤ sizeLine then some (.list (a ++ b)) else none
  | _, _ => none
def gSub : PyData → PyData → Option PyData
  | .int i, .int j => some (.int (i - j))
  | .bool b, .int j => some (.int (bI b - j))
  | _, _ => none
def mulOk (i j : Int) : Bool := decide (i.natAbs < 2 ^ 64) || decide (j.natAbs < 2 ^ 64)
def gMul : PyData → PyData → Option PyData
  | .int i, .int j => if mulOk i j = true then some (.int (i * j)) else none
  | .list xs, .int k => if -(2 ^ 63) ≤ k ∧ k < 2 ^ 63 ∧ xs.length * k.toNat ≤ sizeLine then some (.list (List.replicate k.toNat xs).flatten) else none
  | .tuple xs, .int k => if -1000 ≤ k ∧ k ≤ 1000 ∧ xs.length ≤ 1000 then some (.tuple (List.replicate k.toNat xs).flatten) else none
  | _, _ => none
def gMulL : PyData → PyData → Option PyData
  | .list xs, .int k => if -(2 ^ 63) ≤ k ∧ k < 2 ^ 63 ∧ xs.length * k.toNat ≤ sizeLine then some (.list (List.replicate k.toNat xs).flatten) else none
  | _, _ => none
def gFdiv : PyData → PyData → Option PyData
  | .int i, .int j => if 0 < j ∧ j.natAbs.log2 < 9000 then some (.int (i / j)) else none
  | _, _ => none
def gMod : PyData → PyData → Option PyData
  | .int i, .int j => if 0 < j then some (.int (i % j)) else none
  | _, _ => none
def gPow : PyData → PyData → Option PyData
  | .int i, .int j => if 0 ≤ j ∧ j ≤ 1000000 ∧ i.natAbs < 2 ^ 64 then some (.int (i ^ j.toNat)) else none
  | _, _ => none
def gNeg : PyData → Option PyData
  | .int i => some (.int (-i))
  | _ => none

section
variable {K : PySem.W.Frag} {G H : Hp} {m : List Ty} {σ : St} {e : En} {A : List Addr} {d : PyData} {Q : VK}
theorem dq_lst {G : Hp} {x : V} {ds : List PyData} (h : Dq K G x (.list ds)) : ∃ a xs, x = .ref a ∧ Rd G a (.lst xs) ∧ xs.length ≤ sizeLine ∧ DqA K G xs ds := by
  cases h with
  | lst h1 h2 h3 h4 => exact ⟨_, _, rfl, h1, h3, h2, h4⟩
theorem dq_tup {G : Hp} {x : V} {ds : List PyData} (h : Dq K G x (.tuple ds)) : ∃ a xs, x = .ref a ∧ SqT K G a xs ∧ xs.length ≤ sizeLine ∧ DqA K G xs ds := by
  cases h with
  | tup h1 h2 h3 h4 => exact ⟨_, _, rfl, h1.sq, h3, h2, h4⟩
theorem dq_tupN {G : Hp} {x : V} {ds : List PyData} (h : Dq K G x (.tuple ds)) : ∃ a xs, x = .ref a ∧ NdT K G a xs ∧ xs.length ≤ sizeLine ∧ DqA K G xs ds := by
  cases h with
  | tup h1 h2 h3 h4 => exact ⟨_, _, rfl, h1, h3, h2, h4⟩
theorem dq_int {G : Hp} {x : V} {i : Int} (h : Dq K G x (.int i)) : x = .int i := by cases h; rfl
theorem dq_bool {G : Hp} {x : V} {i : Bool} (h : Dq K G x (.bool i)) : x = .bl i := by cases h; rfl
theorem dq_str {G : Hp} {x : V} {i : Str} (h : Dq K G x (.str i)) : x = .str i ∧ i.length ≤ sizeLine := by cases h; exact ⟨rfl, by assumption⟩
theorem DqA.flat {G : Hp} {xs : List V} {ds : List PyData} (h : DqA K G xs ds) : ∀ k : Nat, DqA K G (List.replicate k xs).flatten (List.replicate k ds).flatten
  | 0 => DqA.nil
  | k + 1 => by rw [List.replicate_succ, List.replicate_succ, List.flatten_cons, List.flatten_cons]; exact h.append (DqA.flat h k)
/-- an owned answer, frozen -/
theorem kfrz {ty : Ty} (hn : nou ty = true) (k : ∀ (G' H' : Hp) (v : V) (Av A' : List Addr), Step A G H (Av ++ A') G' H' → Stt K m G' H' σ e A' → Own K G' H' .s d (some v) Av → (Av ++ A').Nodup → Q v H') :
    ∀ (G' H' : Hp) (v : V) (Av A' : List Addr), Step A G H (Av ++ A') G' H' → Stt K m G' H' σ e A' → Own K G' H' ty d (some v) Av → (Av ++ A').Nodup → Q v H' := fun G1 H1 v1 A1 B1 s1 st1 o1 nd1 => by
  obtain ⟨s2, st2, sg, hl⟩ := frz st1 (own_at o1) nd1
  obtain ⟨x, hx, q⟩ := own_frz o1 sg hl hn
  cases hx
  have s0 : Step A G H ([] ++ B1) (lay G1 H1 A1) H1 := s1.seq0 s2
  exact k _ _ v1 [] B1 s0 st2 (.s q) st2.nd
theorem d2_catL : D2 K rCatR (.l .s) gAddL := fun {m G H σ e A x y dx dy d Q} st hx hy ee k => by
  unfold gAddL at ee
  split at ee
  · obtain ⟨hz, rfl⟩ := ite_some ee
    obtain ⟨a, xs, rfl, r1, z1, q1⟩ := dq_lst hx
    obtain ⟨b, ys, rfl, r2, z2, q2⟩ := dq_lst hy
    have l1 := q1.1
    have l2 := q2.1
    exact ⟨a, b, xs, ys, rfl, rfl, same_rd st.sub r1, same_rd st.sub r2, by omega, ans_lst st (q1.append q2) (by rw [List.length_append]; omega) k⟩
  · cases ee
theorem d2_repL : D2 K rRepR (.l .s) gMulL := fun {m G H σ e A x y dx dy d Q} st hx hy ee k => by
  unfold gMulL at ee
  split at ee
  · obtain ⟨hz, rfl⟩ := ite_some ee
    obtain ⟨a, xs, rfl, r1, z1, q1⟩ := dq_lst hx
    obtain rfl := dq_int hy
    have l1 := q1.1
    exact ⟨a, _, xs, rfl, rfl, same_rd st.sub r1, hz.1, hz.2.1, by rw [l1]; exact hz.2.2, ans_lst st (q1.flat _) (by rw [PyProof.Rows.lm_len_rep_flat, l1, Nat.mul_comm]; exact hz.2.2) k⟩
  · cases ee
end

section
variable {ι : Type} {Xf : ι → Cx} {P : Program} {w : World} {K : PySem.W.Frag} {mg : Str → Option Value} {base : Heap} {n : Nat} [F : Fam Xf P w K mg base n]
include F
theorem kkR {r : PySem.W.Frag → R2} {f : Value → Value → Sem Value} (h : ∀ X : Cx, OpR X f (r X.K)) (i : ι) : OpR (Xf i) f (r K) := by
  have := h (Xf i)
  rw [F.kk i] at this
  exact this
theorem opAdd : Op2 Xf K (binaryOp .Add) .s gAdd := by
  refine ⟨_, fun i => OpR.or op_addBI (OpR.or (op_add) (OpR.or op_add_str (OpR.or (kkR (fun X => op_catN) i) op_catR))), fun {m G H σ e A x y dx dy d Q} st hx hy ee k => ?_⟩
  unfold gAdd at ee
  split at ee
  · cases ee
    obtain rfl := dq_int hx
    obtain rfl := dq_int hy
    exact .inr (.inl ⟨_, _, rfl, rfl, ans_s st (.int _) k⟩)
  · cases ee
    obtain rfl := dq_bool hx
    obtain rfl := dq_int hy
    exact .inl ⟨_, _, rfl, rfl, ans_s st (.int _) k⟩
  · obtain ⟨hz, rfl⟩ := ite_some ee
    obtain ⟨rfl, z1⟩ := dq_str hx
    obtain ⟨rfl, z2⟩ := dq_str hy
    refine .inr (.inr (.inl ⟨_, _, rfl, rfl, hz, ans_s st (.str _ ?_) k⟩))
    rename_i i j
    show (i.cps ++ j.cps).size ≤ _
    rw [Array.size_append]; exact hz
  · obtain ⟨hz, rfl⟩ := ite_some ee
    obtain ⟨a, xs, rfl, r1, z1, q1⟩ := dq_tup hx
    obtain ⟨b, ys, rfl, r2, z2, q2⟩ := dq_tup hy
    have l1 := q1.1
    have l2 := q2.1
    refine .inr (.inr (.inr (.inl ⟨a, b, xs, ys, rfl, rfl, same_seqT st.sub r1, same_seqT st.sub r2, by omega, fun h0 => ?_, fun h0 h1 => ?_, fun _ _ => ans_tup st (q1.append q2) (by rw [List.length_append]; omega) k⟩)))
    · subst h0
      have : (_ : List PyData) = [] := List.length_eq_zero_iff.mp l1.symm
      subst this
      exact ans_s st hy k
    · subst h1
      have : (_ : List PyData) = [] := List.length_eq_zero_iff.mp l2.symm
      subst this
      rw [List.append_nil] at k
      exact ans_s st hx k
  · exact .inr (.inr (.inr (.inr (d2_catL st hx hy ee (kfrz rfl k)))))
  · cases ee
theorem opSub : Op2 Xf K (binaryOp .Sub) .s gSub := ⟨_, fun i => OpR.or op_subBI op_sub, fun {m G H σ e A x y dx dy d Q} st hx hy ee k => by
  unfold gSub at ee
  split at ee
  · cases ee
    obtain rfl := dq_int hx
    obtain rfl := dq_int hy
    exact .inr ⟨_, _, rfl, rfl, ans_s st (.int _) k⟩
  · cases ee
    obtain rfl := dq_bool hx
    obtain rfl := dq_int hy
    exact .inl ⟨_, _, rfl, rfl, ans_s st (.int _) k⟩
  · cases ee⟩
omit F in
/-- tuple * int, the same tuple again -/
theorem mul_same (l : Addr) (its : Array Value) (n : Nat) (dc : Option Addr) (sl : Array (Option Value)) (x : Int) (u : Tok) (k0 : (decide (x < -(2 ^ 63)) || decide (x ≥ 2 ^ 63)) = false) (k1 : (its.isEmpty || x == 1) = true) :
    Meets (Builtin.«tuple.__mul__» ⟨[.ref l, .int x u], []⟩) (fun _ R s => s.heap.get? l = some { cls := .type "tuple", dict := dc, data := .seq its n, slots := sl } ∧ R (.ok (.ret (Value.ref l))) s) :=
  .of_wp fun prog w A R s h => by
    obtain ⟨hp, gg, dr, tk, os⟩ := s
    obtain ⟨at1, h⟩ := h
    have ix := AutoSeq1.idx_int
    wp_walk using wpAny_loadPart' at1
    repeat (first
      | (refine wpAny_ite_false (decide_eq_false (by rw [k0]; exact Bool.false_ne_true)) ?_; wp_walk using wpAny_loadPart' at1)
      | (refine wpAny_ite_true (decide_eq_true k1) ?_; wp_walk using wpAny_loadPart' at1))
    exact ⟨_, rfl, h⟩
omit F in
/-- tuple * int, nothing is left -/
theorem mul_none (l : Addr) (its : Array Value) (n : Nat) (dc : Option Addr) (sl : Array (Option Value)) (x : Int) (u : Tok) (k0 : (decide (x < -(2 ^ 63)) || decide (x ≥ 2 ^ 63)) = false) (k1 : (its.isEmpty || x == 1) = false) (k2 : (decide (x ≤ 0) || its.isEmpty) = true) :
    Meets (Builtin.«tuple.__mul__» ⟨[.ref l, .int x u], []⟩) (fun _ R s => s.heap.get? l = some { cls := .type "tuple", dict := dc, data := .seq its n, slots := sl } ∧
      R (.ok (.ret (Value.ref s.heap.objs.size))) { s with heap := s.heap.push { cls := Value.type "tuple", data := Data.seq #[] }, toks := s.toks }) :=
  .of_wp fun prog w A R s h => by
    obtain ⟨hp, gg, dr, tk, os⟩ := s
    obtain ⟨at1, h⟩ := h
    have ix := AutoSeq1.idx_int
    wp_walk using wpAny_loadPart' at1
    repeat (first
      | (refine wpAny_ite_false (decide_eq_false (by rw [k0]; exact Bool.false_ne_true)) ?_; wp_walk using wpAny_loadPart' at1)
      | (refine wpAny_ite_false (decide_eq_false (by rw [k1]; exact Bool.false_ne_true)) ?_; wp_walk using wpAny_loadPart' at1)
      | (refine wpAny_ite_true (decide_eq_true k2) ?_; wp_walk using wpAny_loadPart' at1))
    exact ⟨_, rfl, h⟩
def rMulE (K : PySem.W.Frag) : R2 := fun x y H Q => ∃ l k xs, x = .ref l ∧ y = .int k ∧ SqT K H l xs ∧ -1000 ≤ k ∧ k ≤ 1000 ∧ (((xs = [] ∨ k = 1) ∧ Q (.ref l) H) ∨ (xs ≠ [] ∧ k ≤ 0 ∧ NewT H [] Q))
omit F in
theorem op_mulE {X : Cx} : OpR X (binaryOp .Mult) (rMulE X.K) := by
  intro pins s σ H x y v u Q I rx ry h
  obtain ⟨l, k, xs, rfl, rfl, hT, b1, b2, h⟩ := h
  cases rx
  obtain ⟨t, rfl⟩ := ry
  obtain ⟨its, r, ⟨⟨cls, dc, data, sl⟩, ho, hc, n, hd⟩, _⟩ := I.tuple hT
  simp only at hc hd
  subst hc hd
  have le : its.length = xs.length := r.length.symm
  have k0 : (decide (k < -(2 ^ 63)) || decide (k ≥ 2 ^ 63)) = false := by
    rw [decide_eq_false (by omega), decide_eq_false (by omega)]; rfl
  rcases h with ⟨hx, q⟩ | ⟨hx, hk, q⟩
  · have k1 : (its.toArray.isEmpty || k == 1) = true := by
      rcases hx with hx | hx
      · subst hx
        obtain rfl : its = [] := List.eq_nil_of_length_eq_zero le
        rfl
      · subst hx; exact Bool.or_true _
    exact wpAny_binaryOp_repeat_ref (T := "tuple") (U := "int") (by decide) ⟨_, ho, rfl⟩ (fun s' => typeIs_int s' k t) noFill_tuple_mul F.fills_int_mul F.slot_int_rmul repeat_tuple F.slot_int_index.lookup
      (call_meets F.slot_int_rmul (typeIs_int s k t) F.entry_int_rmul (F.args_int_rmul_2 _ _) (int_rmul_tuple k t l its.toArray n dc sl)
        ⟨ho, rfl, ⟨_, ho, rfl⟩, call_meets F.slot_tuple_mul ⟨_, ho, rfl⟩ F.entry_tuple_mul (F.args_tuple_mul_2 _ _) (mul_same l its.toArray n dc sl k t k0 k1) ⟨ho, ⟨.ref l, H, I, rfl, q⟩⟩⟩)
  · have ne : its.toArray.isEmpty = false := by
      cases its with
      | nil => exact absurd (List.eq_nil_of_length_eq_zero le.symm) hx
      | cons a b => rfl
    have k1 : (its.toArray.isEmpty || k == 1) = false := by
      rw [ne, Bool.false_or]
      exact beq_eq_false_iff_ne.mpr (by omega)
    have k2 : (decide (k ≤ 0) || its.toArray.isEmpty) = true := by rw [decide_eq_true hk]; rfl
    refine wpAny_binaryOp_repeat_ref (T := "tuple") (U := "int") (by decide) ⟨_, ho, rfl⟩ (fun s' => typeIs_int s' k t) noFill_tuple_mul F.fills_int_mul F.slot_int_rmul repeat_tuple F.slot_int_index.lookup
      (call_meets F.slot_int_rmul (typeIs_int s k t) F.entry_int_rmul (F.args_int_rmul_2 _ _) (int_rmul_tuple k t l its.toArray n dc sl)
        ⟨ho, rfl, ⟨_, ho, rfl⟩, call_meets F.slot_tuple_mul ⟨_, ho, rfl⟩ F.entry_tuple_mul (F.args_tuple_mul_2 _ _) (mul_none l its.toArray n dc sl k t k0 k1 k2) ⟨ho, ?_⟩⟩)
    exact newT_ep (its := []) I .nil (Nat.zero_le _) q
theorem opMul : Op2 Xf K (binaryOp .Mult) .s gMul := by
  refine ⟨_, fun i => OpR.or op_mul (OpR.or op_repR (OpR.or (kkR (fun X => op_repN) i) (kkR (fun X => op_mulE) i))), fun {m G H σ e A x y dx dy d Q} st hx hy ee k => ?_⟩
  unfold gMul at ee
  split at ee
  · obtain ⟨hz, rfl⟩ := ite_some ee
    obtain rfl := dq_int hx
    obtain rfl := dq_int hy
    refine .inl ⟨_, _, rfl, rfl, ?_, ans_s st (.int _) k⟩
    unfold mulOk at hz
    rcases (Bool.or_eq_true _ _).mp hz with h | h
    · have := of_decide_eq_true h; exact .inl (by omega)
    · have := of_decide_eq_true h; exact .inr (by omega)
  · exact .inr (.inl (d2_repL st hx hy ee (kfrz rfl k)))
  · rename_i kk
    obtain ⟨hz, rfl⟩ := ite_some ee
    obtain ⟨a, xs, rfl, r1, z1, q1⟩ := dq_tup hx
    obtain rfl := dq_int hy
    have l1 := q1.1
    have hz2 : (List.replicate kk.toNat xs).flatten.length ≤ sizeLine := by
      rw [PyProof.Rows.lm_len_rep_flat, l1]
      have h1 : kk.toNat ≤ 1000 := Int.toNat_le.mpr hz.2.1
      exact Nat.le_trans (Nat.mul_le_mul h1 hz.2.2) (by decide)
    have e0 : xs = [] → ∀ ds' : List PyData, ds'.length = xs.length → (List.replicate kk.toNat ds').flatten = ds' := fun h ds' hl => by
      subst h
      obtain rfl := List.eq_nil_of_length_eq_zero hl
      induction kk.toNat with
      | zero => rfl
      | succ n ih => rw [List.replicate_succ, List.flatten_cons, ih]; rfl
    by_cases h0 : xs = []
    · refine .inr (.inr (.inr ⟨a, _, xs, rfl, rfl, same_seqT st.sub r1, hz.1, hz.2.1, .inl ⟨.inl h0, ?_⟩⟩))
      rw [e0 h0 _ l1.symm] at k
      exact ans_s st hx k
    · by_cases h1 : kk = 1
      · subst h1
        refine .inr (.inr (.inr ⟨a, _, xs, rfl, rfl, same_seqT st.sub r1, hz.1, hz.2.1, .inl ⟨.inr rfl, ?_⟩⟩))
        rw [show (1 : Int).toNat = 1 from rfl, List.replicate_one, List.flatten_singleton] at k
        exact ans_s st hx k
      · by_cases h2 : kk ≤ 0
        · refine .inr (.inr (.inr ⟨a, _, xs, rfl, rfl, same_seqT st.sub r1, hz.1, hz.2.1, .inr ⟨h0, h2, ?_⟩⟩))
          rw [Int.toNat_of_nonpos h2, List.replicate_zero, List.flatten_nil] at k
          exact ans_tup st DqA.nil (Nat.zero_le _) k
        · exact .inr (.inr (.inl ⟨a, _, xs, rfl, rfl, same_seqT st.sub r1, h0, by omega, hz.2.1, by omega, ans_tup st (q1.flat _) hz2 k⟩))
  · cases ee
theorem opFdiv : Op2 Xf K (binaryOp .FloorDiv) .s gFdiv := ⟨_, fun i => op_fdivW, fun {m G H σ e A x y dx dy d Q} st hx hy ee k => by
  unfold gFdiv at ee
  split at ee
  · obtain ⟨hz, rfl⟩ := ite_some ee
    obtain rfl := dq_int hx
    obtain rfl := dq_int hy
    exact ⟨_, _, rfl, rfl, hz, ans_s st (.int _) k⟩
  · cases ee⟩
theorem opMod : Op2 Xf K (binaryOp .Mod) .s gMod := ⟨_, fun i => op_mod, fun {m G H σ e A x y dx dy d Q} st hx hy ee k => by
  unfold gMod at ee
  split at ee
  · obtain ⟨hz, rfl⟩ := ite_some ee
    obtain rfl := dq_int hx
    obtain rfl := dq_int hy
    exact ⟨_, _, rfl, rfl, hz, ans_s st (.int _) k⟩
  · cases ee⟩
theorem opPow : Op2 Xf K (binaryOp .Pow) .s gPow := ⟨_, fun i => op_pow, fun {m G H σ e A x y dx dy d Q} st hx hy ee k => by
  unfold gPow at ee
  split at ee
  · obtain ⟨hz, rfl⟩ := ite_some ee
    obtain rfl := dq_int hx
    obtain rfl := dq_int hy
    exact ⟨_, _, rfl, rfl, hz, ans_s st (.int _) k⟩
  · cases ee⟩
theorem pd_neg {m m1 : List Ty} {pos : Pos} {a : Expr} {f : Ef} (ha : PD Xf K m a .s f m1) : PD Xf K m (.UnaryOp .USub a pos) .s (e1 gNeg f) m1 := by
  obtain ⟨ta, pa, da⟩ := ha.ex
  refine ⟨_, fun i => pe_un un_neg (pa i), DE.un da fun {m G H σ e A x dx d Q} st hx ee k => ?_⟩
  unfold gNeg at ee
  split at ee
  · cases ee
    obtain rfl := dq_int hx
    exact ⟨_, rfl, ans_s st (.int _) k⟩
  · cases ee
end

/-! ### subscripts, slices -/
def gIx : PyData → PyData → Option PyData
  | .list xs, .int i => atI xs i
  | .tuple xs, .int i => atI xs i
  | .str z, .int i => (atI z.cps.toList i).map fun c => .str ⟨#[c]⟩
  | _, _ => none
def cutD (ds : List PyData) (lo hi : Option Int) : List PyData := (ds.drop (HT.sIx ds.length 0 lo)).take (HT.sIx ds.length ds.length hi - HT.sIx ds.length 0 lo)
def prt : PyData → Option (Option Int)
  | .int i => some (some i)
  | _ => none
def gSl (x : PyData) (lo hi : Option Int) : Option PyData :=
  match x with
  | .list xs => some (.list (cutD xs lo hi))
  | .tuple xs => some (.tuple (cutD xs lo hi))
  | .str z => some (.str (cutS z lo hi))
  | _ => none
def gSlL (x : PyData) (lo hi : Option Int) : Option PyData :=
  match x with
  | .list xs => some (.list (cutD xs lo hi))
  | _ => none
theorem atI_dq {K : PySem.W.Frag} {G : Hp} {xs : List V} {ds : List PyData} (q : DqA K G xs ds) {i : Int} {d : PyData} (h : atI ds i = some d) : ∃ v, atI xs i = some v ∧ Dq K G v d := by
  unfold atI at h ⊢
  obtain ⟨j, hj, hd⟩ := Option.bind_eq_some_iff.mp h
  obtain ⟨v, hv, qv⟩ := q.get hd
  exact ⟨v, by rw [q.1, hj]; exact hv, qv⟩
theorem cut_dq {K : PySem.W.Frag} {G : Hp} {xs : List V} {ds : List PyData} (q : DqA K G xs ds) (lo hi : Option Int) : DqA K G (cutV xs lo hi) (cutD ds lo hi) := by
  unfold cutV cutD
  rw [q.1]
  have hdrop : ∀ k : Nat, DqA K G (xs.drop k) (ds.drop k) := fun k => ⟨by simp [q.1], fun i v d a b => q.2 (k + i) v d (by simpa using a) (by simpa using b)⟩
  have htake : ∀ (k : Nat) (xs : List V) (ds : List PyData), DqA K G xs ds → DqA K G (xs.take k) (ds.take k) := fun k xs ds q => ⟨by simp [q.1], fun i v d a b => by
    rw [List.getElem?_take] at a b
    split at a
    · rename_i hi; rw [if_pos hi] at b; exact q.2 i v d a b
    · cases a⟩
  exact htake _ _ _ (hdrop _)
theorem cutD_all {ds : List PyData} {lo hi : Option Int} (h : HT.sIx ds.length 0 lo = 0 ∧ HT.sIx ds.length ds.length hi = ds.length) : cutD ds lo hi = ds := by
  unfold cutD
  rw [h.1, h.2]
  simp
theorem cutS_len (z : Str) (lo hi : Option Int) : (cutS z lo hi).length ≤ z.length := by
  unfold cutS
  show ((z.cps.toList.drop _).take _).toArray.size ≤ z.cps.size
  rw [List.size_toArray, List.length_take, List.length_drop, Array.length_toList]
  omega
abbrev Of := En → Option (Option Int × En)
def oNone : Of := fun e => some (none, e)
def oSome (f : Ef) : Of := fun e => (f e).bind fun p => (prt p.1).bind fun i => some (i, p.2)
def DO (K : PySem.W.Frag) (m : List Ty) (t : TO) (f : Of) (m' : List Ty) : Prop :=
  ∀ {G H : Hp} {σ : St} {e : En} {A : List Addr} {o : Option Int} {e' : En} {Q : Option Int → Hp → Prop}, Stt K m G H σ e A → f e = some (o, e') →
    (∀ (G' H' : Hp) (A' : List Addr), Step A G H A' G' H' → Stt K m' G' H' σ e' A' → Q o H') → t σ H Q
structure PP {ι : Type} (Xf : ι → Cx) (K : PySem.W.Frag) (m : List Ty) (e : Option Expr) (f : Of) (m' : List Ty) : Prop where
  ex : ∃ t : TO, (∀ i, PO (Xf i) e t) ∧ DO K m t f m'
def eSl (gg : PyData → Option Int → Option Int → Option PyData) (a : Ef) (l u : Of) : Ef := fun e => (a e).bind fun p => (l p.2).bind fun q => (u q.2).bind fun r => (gg p.1 q.1 r.1).bind fun d => some (d, r.2)

section
variable {ι : Type} {Xf : ι → Cx} {P : Program} {w : World} {K : PySem.W.Frag} {mg : Str → Option Value} {base : Heap} {n : Nat} [F : Fam Xf P w K mg base n]
variable {m m1 m2 m3 : List Ty} {pos p p2 : Pos} {a b c : Expr} {f g h : Ef}
include F
theorem kkIx {r : PySem.W.Frag → R2} (h : ∀ X : Cx, IxR X (r X.K)) (i : ι) : IxR (Xf i) (r K) := by
  have := h (Xf i)
  rw [F.kk i] at this
  exact this
theorem ixAny : Ix2 Xf K .s gIx := by
  refine ⟨_, fun i => IxR.or (kkIx (fun X => ix_list) i) (IxR.or (kkIx (fun X => ix_tup) i) ix_str), fun {m G H σ e A x y dx dy d Q} st hx hy ee k => ?_⟩
  unfold gIx at ee
  split at ee
  · obtain ⟨a, xs, rfl, r1, z1, q1⟩ := dq_lst hx
    obtain rfl := dq_int hy
    obtain ⟨v, hv, qv⟩ := atI_dq q1 ee
    exact .inl ⟨_, _, _, v, rfl, rfl, .inl (same_rd st.sub r1), hv, ans_s st qv k⟩
  · obtain ⟨a, xs, rfl, r1, z1, q1⟩ := dq_tup hx
    obtain rfl := dq_int hy
    obtain ⟨v, hv, qv⟩ := atI_dq q1 ee
    exact .inr (.inl ⟨_, _, _, v, rfl, rfl, same_seqT st.sub r1, hv, ans_s st qv k⟩)
  · obtain ⟨rfl, z1⟩ := dq_str hx
    obtain rfl := dq_int hy
    obtain ⟨cc, hc, rfl⟩ := Option.map_eq_some_iff.mp ee
    exact .inr (.inr ⟨_, _, cc, rfl, rfl, z1, hc, ans_s st (.str _ (by show 1 ≤ sizeLine; decide)) k⟩)
  · cases ee
omit F in
theorem pp_none : PP Xf K m none oNone m := ⟨_, fun i => po_none, fun st hf k => by cases hf; exact k _ _ _ Step.refl st⟩
omit F in
theorem pp_some (ha : PD Xf K m a .s f m1) : PP Xf K m (some a) (oSome f) m1 := by
  obtain ⟨ta, pa, da⟩ := ha.ex
  refine ⟨_, fun i => po_some (pa i), fun {G H σ e A o e' Q} st hf k => ?_⟩
  unfold oSome at hf
  obtain ⟨⟨d1, e1⟩, hf1, hf⟩ := Option.bind_eq_some_iff.mp hf
  obtain ⟨o1, hf2, hf⟩ := Option.bind_eq_some_iff.mp hf
  cases hf
  refine da st hf1 fun G1 H1 v1 A1 B1 s1 st1 o1 nd1 => ?_
  cases o1 with
  | s q1 =>
    cases d1 with
    | int i =>
      cases hf2
      obtain rfl := dq_int q1
      exact ⟨i, rfl, k _ _ _ s1 st1⟩
    | _ => cases hf2
theorem kkSl {r : PySem.W.Frag → V → Option Int → Option Int → Hp → VK → Prop} (h : ∀ X : Cx, SlR X (r X.K)) (i : ι) : SlR (Xf i) (r K) := by
  have := h (Xf i)
  rw [F.kk i] at this
  exact this
theorem pd_slice {lo hi : Option Expr} {fl fu : Of} (ha : PD Xf K m a .s f m1) (hl : PP Xf K m1 lo fl m2) (hu : PP Xf K m2 hi fu m3) : PD Xf K m (.Subscript a (.Slice lo hi none p2) pos) .s (eSl gSl f fl fu) m3 := by
  obtain ⟨ta, pa, da⟩ := ha.ex
  obtain ⟨tl, pl, dl⟩ := hl.ex
  obtain ⟨tu, pu, du⟩ := hu.ex
  refine ⟨_, fun i => pe_slice (SlR.or (kkSl (fun X => sl_list) i) (SlR.or (kkSl (fun X => sl_tupN) i) sl_str)) (pa i) (pl i) (pu i), fun {G H σ e A d e' Q} st hf k => ?_⟩
  unfold eSl at hf
  obtain ⟨⟨d1, e1⟩, hf1, hf⟩ := Option.bind_eq_some_iff.mp hf
  obtain ⟨⟨lo1, e2⟩, hf2, hf⟩ := Option.bind_eq_some_iff.mp hf
  obtain ⟨⟨hi1, e3⟩, hf3, hf⟩ := Option.bind_eq_some_iff.mp hf
  obtain ⟨d2, hf4, hf⟩ := Option.bind_eq_some_iff.mp hf
  cases hf
  refine da st hf1 fun G1 H1 v1 A1 B1 s1 st1 o1 nd1 => ?_
  cases o1 with
  | s q1 =>
    refine dl st1 hf2 fun G2 H2 A2 s2 st2 => du st2 hf3 fun G3 H3 A3 s3 st3 => ?_
    have q3 := q1.mono (s2.sg.trans s3.sg)
    have s0 : Step A G H A3 G3 H3 := (s1.seq0 s2).seq0 s3
    have k' : ∀ (G' H' : Hp) (v : V) (Av A' : List Addr), Step A3 G3 H3 (Av ++ A') G' H' → Stt K m3 G' H' σ e3 A' → Own K G' H' .s d (some v) Av → (Av ++ A').Nodup → Q v H' := fun G' H' v Av A' s4 st4 o4 nd4 => k G' H' v Av A' (s0.seq0 s4) st4 o4 nd4
    cases d1 with
    | list ds =>
      cases hf4
      obtain ⟨a, xs, rfl, r1, z1, q1⟩ := dq_lst q3
      exact .inl ⟨a, xs, rfl, .inl (same_rd st3.sub r1), ans_lst st3 (cut_dq q1 _ _) (Nat.le_trans (cutV_length _ _ _) z1) (kfrz rfl k')⟩
    | tuple ds =>
      cases hf4
      obtain ⟨a, xs, rfl, r1, z1, q1⟩ := dq_tup q3
      refine .inr (.inl ⟨a, xs, rfl, same_seqT st3.sub r1, fun hw => ?_, fun _ => ans_tup st3 (cut_dq q1 _ _) (Nat.le_trans (cutV_length _ _ _) z1) k'⟩)
      rw [q1.1] at hw
      rw [cutD_all hw] at k'
      exact ans_s st3 q3 k'
    | str z =>
      cases hf4
      obtain ⟨rfl, z1⟩ := dq_str q3
      exact .inr (.inr ⟨_, rfl, z1, ans_s st3 (.str _ (Nat.le_trans (cutS_len _ _ _) z1)) k'⟩)
    | _ => cases hf4
/-- a slice of a list, kept as one's own -/
theorem pd_sliceL {lo hi : Option Expr} {fl fu : Of} (ha : PD Xf K m a .s f m1) (hl : PP Xf K m1 lo fl m2) (hu : PP Xf K m2 hi fu m3) : PD Xf K m (.Subscript a (.Slice lo hi none p2) pos) (.l .s) (eSl gSlL f fl fu) m3 := by
  obtain ⟨ta, pa, da⟩ := ha.ex
  obtain ⟨tl, pl, dl⟩ := hl.ex
  obtain ⟨tu, pu, du⟩ := hu.ex
  refine ⟨_, fun i => pe_slice (kkSl (fun X => sl_list) i) (pa i) (pl i) (pu i), fun {G H σ e A d e' Q} st hf k => ?_⟩
  unfold eSl at hf
  obtain ⟨⟨d1, e1⟩, hf1, hf⟩ := Option.bind_eq_some_iff.mp hf
  obtain ⟨⟨lo1, e2⟩, hf2, hf⟩ := Option.bind_eq_some_iff.mp hf
  obtain ⟨⟨hi1, e3⟩, hf3, hf⟩ := Option.bind_eq_some_iff.mp hf
  obtain ⟨d2, hf4, hf⟩ := Option.bind_eq_some_iff.mp hf
  cases hf
  refine da st hf1 fun G1 H1 v1 A1 B1 s1 st1 o1 nd1 => ?_
  cases o1 with
  | s q1 =>
    refine dl st1 hf2 fun G2 H2 A2 s2 st2 => du st2 hf3 fun G3 H3 A3 s3 st3 => ?_
    have q3 := q1.mono (s2.sg.trans s3.sg)
    have s0 : Step A G H A3 G3 H3 := (s1.seq0 s2).seq0 s3
    have k' : ∀ (G' H' : Hp) (v : V) (Av A' : List Addr), Step A3 G3 H3 (Av ++ A') G' H' → Stt K m3 G' H' σ e3 A' → Own K G' H' (.l .s) d (some v) Av → (Av ++ A').Nodup → Q v H' := fun G' H' v Av A' s4 st4 o4 nd4 => k G' H' v Av A' (s0.seq0 s4) st4 o4 nd4
    cases d1 with
    | list ds =>
      cases hf4
      obtain ⟨a, xs, rfl, r1, z1, q1⟩ := dq_lst q3
      exact ⟨a, xs, rfl, .inl (same_rd st3.sub r1), ans_lst st3 (cut_dq q1 _ _) (Nat.le_trans (cutV_length _ _ _) z1) k'⟩
    | _ => cases hf4
end
end DL

namespace DL
open PySem L2 PySem.Spec

/-! ### tests, and, or, not, conditional values -/
def gTruth : PyData → Option Bool
  | .none => some false
  | .bool b => some b
  | .int i => some (i != 0)
  | .str y => some ((y.length : Int) != 0)
  | .list xs => some (!xs.isEmpty)
  | .tuple xs => some (!xs.isEmpty)
  | _ => none
def bOf (f : Ef) : Bf := fun e => (f e).bind fun p => (gTruth p.1).bind fun b => some (b, p.2)
def bAnd (f g : Bf) : Bf := fun e => (f e).bind fun p => if p.1 = true then g p.2 else some (false, p.2)
def bOr (f g : Bf) : Bf := fun e => (f e).bind fun p => if p.1 = true then some (true, p.2) else g p.2
def bNot (f : Bf) : Bf := fun e => (f e).bind fun p => some (!p.1, p.2)
def eAnd (f g : Ef) : Ef := fun e => (f e).bind fun p => match p.1 with
  | .bool true => g p.2
  | .bool false => some (.bool false, p.2)
  | _ => none
def eOr (f g : Ef) : Ef := fun e => (f e).bind fun p => match p.1 with
  | .bool true => some (.bool true, p.2)
  | .bool false => g p.2
  | _ => none
def eIf (c : Bf) (f g : Ef) : Ef := fun e => (c e).bind fun p => if p.1 = true then f p.2 else g p.2
def eChain (g1 g2 : PyData → PyData → Option PyData) (a b c : Ef) : Ef := fun e => (a e).bind fun p => (b p.2).bind fun q => (g1 p.1 q.1).bind fun r => match r with
  | .bool true => (c q.2).bind fun t => (g2 q.1 t.1).bind fun z => some (z, t.2)
  | .bool false => some (.bool false, q.2)
  | _ => none

section
variable {ι : Type} {Xf : ι → Cx} {P : Program} {w : World} {K : PySem.W.Frag} {mg : Str → Option Value} {base : Heap} {n : Nat} [F : Fam Xf P w K mg base n]
variable {m m1 m2 m3 : List Ty} {pos p p2 : Pos} {a b c : Expr} {f g h : Ef} {fb gb : Bf} {ty : Ty} {rest : List Expr}

theorem truV_of {G H : Hp} {v : V} {d : PyData} {b : Bool} (q : Dq K G v d) (sub : Same G H) (h : gTruth d = some b) : TruV K v H b := by
  cases q with
  | non => cases h; rfl
  | bl => cases h; rfl
  | int => cases h; rfl
  | str x hx => cases h; exact ⟨hx, rfl⟩
  | @lst a xs ds hs hl hz _ =>
    cases h
    refine .inl ⟨xs, .inl (same_rd sub hs), ?_⟩
    cases xs <;> cases ds <;> simp_all
  | @tup a xs ds hs hl hz _ =>
    cases h
    refine .inr (.inl ⟨xs, same_seqT sub hs.sq, ?_⟩)
    cases xs <;> cases ds <;> simp_all
  | dic => cases h
include F in
theorem pb_of (ha : PD Xf K m a .s f m1) (he : ∀ i whole, isTrue a (Xf i).env whole = (do let v ← whole; standAt a.pos; holding [v] (truthy v)) := by intro _ _; rfl) : PB Xf K m a (bOf f) m1 := by
  obtain ⟨ta, pa, da⟩ := ha.ex
  refine ⟨fun σ H Q => ta σ H fun x H' => ∃ k, TruV K x H' k ∧ Q k H', fun i => ?_, fun {G H σ e A b e' Q} st hf k => ?_⟩
  · have := pt_truth (X := Xf i) (pa i) (he i)
    rw [F.kk i] at this
    exact this
  · unfold bOf at hf
    obtain ⟨⟨d1, e1⟩, hf1, hf⟩ := Option.bind_eq_some_iff.mp hf
    obtain ⟨b1, hf2, hf⟩ := Option.bind_eq_some_iff.mp hf
    cases hf
    refine da st hf1 fun G1 H1 v1 A1 B1 s1 st1 o1 nd1 => ?_
    cases o1 with
    | s q1 => exact ⟨_, truV_of q1 st1.sub hf2, k _ _ _ s1 st1⟩
theorem DT.and {t u : TT} (ha : DT K m t fb m1) (hb : DT K m1 u gb m1) : DT K m (tAnd t u) (bAnd fb gb) m1 := by
  intro G H σ e A b e' Q st hf k
  unfold bAnd at hf
  obtain ⟨⟨b1, e1⟩, hf1, hf⟩ := Option.bind_eq_some_iff.mp hf
  refine ha st hf1 fun G1 H1 A1 s1 st1 => ?_
  cases b1 with
  | true => rw [if_pos rfl] at hf ⊢; exact hb st1 hf fun G2 H2 A2 s2 st2 => k _ _ _ (s1.seq0 s2) st2
  | false => rw [if_neg (by simp)] at hf ⊢; cases hf; exact k _ _ _ s1 st1
theorem DT.or {t u : TT} (ha : DT K m t fb m1) (hb : DT K m1 u gb m1) : DT K m (tOr t u) (bOr fb gb) m1 := by
  intro G H σ e A b e' Q st hf k
  unfold bOr at hf
  obtain ⟨⟨b1, e1⟩, hf1, hf⟩ := Option.bind_eq_some_iff.mp hf
  refine ha st hf1 fun G1 H1 A1 s1 st1 => ?_
  cases b1 with
  | true => rw [if_pos rfl] at hf ⊢; cases hf; exact k _ _ _ s1 st1
  | false => rw [if_neg (by simp)] at hf ⊢; exact hb st1 hf fun G2 H2 A2 s2 st2 => k _ _ _ (s1.seq0 s2) st2
theorem pbw_and1 (ha : PB Xf K m a fb m1) : PBw Xf K m (.BoolOp .And [a] pos) fb m1 := by
  obtain ⟨ta, pa, da⟩ := ha.ex
  exact ⟨ta, fun i => pw_and1 (pa i), da⟩
theorem pbw_or1 (ha : PB Xf K m a fb m1) : PBw Xf K m (.BoolOp .Or [a] pos) fb m1 := by
  obtain ⟨ta, pa, da⟩ := ha.ex
  exact ⟨ta, fun i => pw_or1 (pa i), da⟩
theorem pbw_and (ha : PB Xf K m a fb m1) (hb : PBw Xf K m1 (.BoolOp .And (b :: rest) pos) gb m1) : PBw Xf K m (.BoolOp .And (a :: b :: rest) pos) (bAnd fb gb) m1 := by
  obtain ⟨ta, pa, da⟩ := ha.ex
  obtain ⟨tb, pb, db⟩ := hb.ex
  exact ⟨_, fun i => pw_and (pa i) (pb i), DT.and da db⟩
theorem pbw_or (ha : PB Xf K m a fb m1) (hb : PBw Xf K m1 (.BoolOp .Or (b :: rest) pos) gb m1) : PBw Xf K m (.BoolOp .Or (a :: b :: rest) pos) (bOr fb gb) m1 := by
  obtain ⟨ta, pa, da⟩ := ha.ex
  obtain ⟨tb, pb, db⟩ := hb.ex
  exact ⟨_, fun i => pw_or (pa i) (pb i), DT.or da db⟩
theorem pb_w (ha : PBw Xf K m a fb m1) : PB Xf K m a fb m1 := by
  obtain ⟨ta, pa, da⟩ := ha.ex
  exact ⟨ta, fun i => (pa i).pt, da⟩
theorem pb_not (ha : PB Xf K m a fb m1) : PB Xf K m (.UnaryOp .Not a pos) (bNot fb) m1 := by
  obtain ⟨ta, pa, da⟩ := ha.ex
  refine ⟨_, fun i => pt_not (pa i), fun {G H σ e A b e' Q} st hf k => ?_⟩
  unfold bNot at hf
  obtain ⟨⟨b1, e1⟩, hf1, hf⟩ := Option.bind_eq_some_iff.mp hf
  cases hf
  exact da st hf1 fun G1 H1 A1 s1 st1 => k _ _ _ s1 st1
theorem pd_and1 (ha : PD Xf K m a .s f m1) : PD Xf K m (.BoolOp .And [a] pos) .s f m1 := by
  obtain ⟨ta, pa, da⟩ := ha.ex
  exact ⟨ta, fun i => pe_one (pa i), da⟩
theorem pd_or1 (ha : PD Xf K m a .s f m1) : PD Xf K m (.BoolOp .Or [a] pos) .s f m1 := by
  obtain ⟨ta, pa, da⟩ := ha.ex
  exact ⟨ta, fun i => pe_one (pa i), da⟩
theorem pd_and (ha : PD Xf K m a .s f m1) (hb : PD Xf K m1 (.BoolOp .And (b :: rest) pos) .s g m1) : PD Xf K m (.BoolOp .And (a :: b :: rest) pos) .s (eAnd f g) m1 := by
  obtain ⟨ta, pa, da⟩ := ha.ex
  obtain ⟨tb, pb, db⟩ := hb.ex
  refine ⟨_, fun i => pe_and (pa i) (pb i), fun {G H σ e A d e' Q} st hf k => ?_⟩
  unfold eAnd at hf
  obtain ⟨⟨d1, e1⟩, hf1, hf⟩ := Option.bind_eq_some_iff.mp hf
  refine da st hf1 fun G1 H1 v1 A1 B1 s1 st1 o1 nd1 => ?_
  cases o1 with
  | s q1 =>
    cases q1 with
    | bl b1 =>
      cases b1 with
      | true => exact ⟨true, rfl, db st1 hf fun G2 H2 v2 A2 B2 s2 st2 o2 nd2 => k _ _ _ _ _ (s1.seq0 s2) st2 o2 nd2⟩
      | false => cases hf; exact ⟨false, rfl, ans_s st1 (.bl false) fun G2 H2 v2 A2 B2 s2 st2 o2 nd2 => k _ _ _ _ _ (s1.seq0 s2) st2 o2 nd2⟩
    | _ => cases hf
theorem pd_or (ha : PD Xf K m a .s f m1) (hb : PD Xf K m1 (.BoolOp .Or (b :: rest) pos) .s g m1) : PD Xf K m (.BoolOp .Or (a :: b :: rest) pos) .s (eOr f g) m1 := by
  obtain ⟨ta, pa, da⟩ := ha.ex
  obtain ⟨tb, pb, db⟩ := hb.ex
  refine ⟨_, fun i => pe_or (pa i) (pb i), fun {G H σ e A d e' Q} st hf k => ?_⟩
  unfold eOr at hf
  obtain ⟨⟨d1, e1⟩, hf1, hf⟩ := Option.bind_eq_some_iff.mp hf
  refine da st hf1 fun G1 H1 v1 A1 B1 s1 st1 o1 nd1 => ?_
  cases o1 with
  | s q1 =>
    cases q1 with
    | bl b1 =>
      cases b1 with
      | false => exact ⟨false, rfl, db st1 hf fun G2 H2 v2 A2 B2 s2 st2 o2 nd2 => k _ _ _ _ _ (s1.seq0 s2) st2 o2 nd2⟩
      | true => cases hf; exact ⟨true, rfl, ans_s st1 (.bl true) fun G2 H2 v2 A2 B2 s2 st2 o2 nd2 => k _ _ _ _ _ (s1.seq0 s2) st2 o2 nd2⟩
    | _ => cases hf
theorem pd_ifexp (hc : PB Xf K m c fb m1) (ha : PD Xf K m1 a ty f m2) (hb : PD Xf K m1 b ty g m2) : PD Xf K m (.IfExp c a b pos) ty (eIf fb f g) m2 := by
  obtain ⟨tc, pc, dc⟩ := hc.ex
  obtain ⟨ta, pa, da⟩ := ha.ex
  obtain ⟨tb, pb, db⟩ := hb.ex
  refine ⟨_, fun i => pe_ifExp (pc i) (pa i) (pb i), fun {G H σ e A d e' Q} st hf k => ?_⟩
  unfold eIf at hf
  obtain ⟨⟨b1, e1⟩, hf1, hf⟩ := Option.bind_eq_some_iff.mp hf
  refine dc st hf1 fun G1 H1 A1 s1 st1 => ?_
  cases b1 with
  | true => rw [if_pos rfl] at hf ⊢; exact da st1 hf fun G2 H2 v2 A2 B2 s2 st2 o2 nd2 => k _ _ _ _ _ (s1.seq0 s2) st2 o2 nd2
  | false => rw [if_neg (by simp)] at hf ⊢; exact db st1 hf fun G2 H2 v2 A2 B2 s2 st2 o2 nd2 => k _ _ _ _ _ (s1.seq0 s2) st2 o2 nd2
theorem DE.chain {r r' : R2} {ta tb tc : TE} {g1 g2 : PyData → PyData → Option PyData} (ha : DE K m ta .s f m1) (hb : DE K m1 tb .s g m2) (hc : DE K m2 tc .s h m2) (hr : D2 K r .s g1) (hr' : D2 K r' .s g2) : DE K m (tChain r r' ta tb tc) .s (eChain g1 g2 f g h) m2 := by
  intro G H σ e A d e' Q st hf k
  unfold eChain at hf
  obtain ⟨⟨d1, e1⟩, hf1, hf⟩ := Option.bind_eq_some_iff.mp hf
  obtain ⟨⟨d2, e2⟩, hf2, hf⟩ := Option.bind_eq_some_iff.mp hf
  obtain ⟨d3, hf3, hf⟩ := Option.bind_eq_some_iff.mp hf
  refine ha st hf1 fun G1 H1 v1 A1 B1 s1 st1 o1 nd1 => ?_
  cases o1 with
  | s q1 =>
    refine hb st1 hf2 fun G2 H2 v2 A2 B2 s2 st2 o2 nd2 => ?_
    cases o2 with
    | s q2 =>
      refine hr st2 (q1.mono s2.sg) q2 hf3 fun G3 H3 v3 A3 B3 s3 st3 o3 nd3 => ?_
      cases o3 with
      | s q3 =>
        have s03 := (s1.seq0 s2).seq0 s3
        cases q3 with
        | bl b3 =>
          refine ⟨b3, rfl, ?_⟩
          cases b3 with
          | true =>
            rw [if_pos rfl]
            obtain ⟨⟨d4, e4⟩, hf4, hf⟩ := Option.bind_eq_some_iff.mp hf
            obtain ⟨d5, hf5, hf⟩ := Option.bind_eq_some_iff.mp hf
            cases hf
            refine hc st3 hf4 fun G4 H4 v4 A4 B4 s4 st4 o4 nd4 => ?_
            cases o4 with
            | s q4 => exact hr' st4 (q2.mono (s3.sg.trans s4.sg)) q4 hf5 fun G5 H5 v5 A5 B5 s5 st5 o5 nd5 => k _ _ _ _ _ ((s03.seq0 s4).seq0 s5) st5 o5 nd5
          | false =>
            rw [if_neg (by simp)]
            cases hf
            exact ans_s st3 (.bl false) fun G5 H5 v5 A5 B5 s5 st5 o5 nd5 => k _ _ _ _ _ (s03.seq0 s5) st5 o5 nd5
        | _ => cases hf
theorem pd_chain {op op' : CmpOp} {g1 g2 : PyData → PyData → Option PyData} (ho : Op2 Xf K (compareOp op) .s g1) (ho' : Op2 Xf K (compareOp op') .s g2) (ha : PD Xf K m a .s f m1) (hb : PD Xf K m1 b .s g m2) (hc : PD Xf K m2 c .s h m2)
    (hm : lastMarks [op, op'] [b, c] = false := by with_unfolding_all rfl) : PD Xf K m (.Compare a [op, op'] [b, c] pos) .s (eChain g1 g2 f g h) m2 := by
  obtain ⟨r, hr, dr⟩ := ho.ex
  obtain ⟨r', hr', dr'⟩ := ho'.ex
  obtain ⟨ta, pa, da⟩ := ha.ex
  obtain ⟨tb, pb, db⟩ := hb.ex
  obtain ⟨tc, pc, dc⟩ := hc.ex
  exact ⟨_, fun i => pe_chain (hr i) (hr' i) (pa i) (pb i) (pc i) hm, DE.chain da db dc dr dr'⟩
/-- a comparison, a chain, as a test -/
theorem DE.test {te : TE} (ha : DE K m te .s f m1) : DT K m (tTest te) (fun e => (f e).bind fun p => match p.1 with | .bool b => some (b, p.2) | _ => none) m1 := by
  intro G H σ e A b e' Q st hf k
  obtain ⟨⟨d1, e1⟩, hf1, hf⟩ := Option.bind_eq_some_iff.mp hf
  refine ha st hf1 fun G1 H1 v1 A1 B1 s1 st1 o1 nd1 => ?_
  cases o1 with
  | s q1 =>
    cases q1 with
    | bl b1 => cases hf; exact ⟨_, rfl, k _ _ _ s1 st1⟩
    | _ => cases hf
end
def bT (f : Ef) : Bf := fun e => (f e).bind fun p => match p.1 with | .bool b => some (b, p.2) | _ => none
section
variable {ι : Type} {Xf : ι → Cx} {P : Program} {w : World} {K : PySem.W.Frag} {mg : Str → Option Value} {base : Heap} {n : Nat} [F : Fam Xf P w K mg base n]
variable {m m1 m2 m3 : List Ty} {pos p p2 : Pos} {a b c : Expr} {f g h : Ef} {fb gb : Bf} {ty : Ty} {rest : List Expr}
theorem pb_cmp {op : CmpOp} {gg : PyData → PyData → Option PyData} (ho : Op2 Xf K (compareOp op) .s gg) (ha : PD Xf K m a .s f m1) (hb : PD Xf K m1 b .s g m2) (hm : behindInMarks op b = false := by first | exact nomark _ | rfl) : PB Xf K m (.Compare a [op] [b] pos) (bT (e2 gg f g)) m2 := by
  obtain ⟨r, hr, dr⟩ := ho.ex
  obtain ⟨ta, pa, da⟩ := ha.ex
  obtain ⟨tb, pb, db⟩ := hb.ex
  exact ⟨_, fun i => pt_cmpR (hr i) (pa i) (pb i) hm, DE.test (DE.bin da db dr)⟩
theorem pb_chain {op op' : CmpOp} {g1 g2 : PyData → PyData → Option PyData} (ho : Op2 Xf K (compareOp op) .s g1) (ho' : Op2 Xf K (compareOp op') .s g2) (ha : PD Xf K m a .s f m1) (hb : PD Xf K m1 b .s g m2) (hc : PD Xf K m2 c .s h m2)
    (hm : lastMarks [op, op'] [b, c] = false := by with_unfolding_all rfl) : PB Xf K m (.Compare a [op, op'] [b, c] pos) (bT (eChain g1 g2 f g h)) m2 := by
  obtain ⟨r, hr, dr⟩ := ho.ex
  obtain ⟨r', hr', dr'⟩ := ho'.ex
  obtain ⟨ta, pa, da⟩ := ha.ex
  obtain ⟨tb, pb, db⟩ := hb.ex
  obtain ⟨tc, pc, dc⟩ := hc.ex
  exact ⟨_, fun i => pt_chain (hr i) (hr' i) (pa i) (pb i) (pc i) hm, DE.test (DE.chain da db dc dr dr')⟩
end

/-! ### argument lists: with slots that are lent -/
def LendOk (σ : St) (vs : List V) (L : List (Option Nat)) : Prop := ∀ k j : Nat, L[k]? = some (some j) → ∃ v, vs[k]? = some v ∧ σ[j]? = some (some v)
def DAL (K : PySem.W.Frag) (m : List Ty) (ta : TA) (tys : List Ty) (L : List (Option Nat)) (f : Lf) (m' : List Ty) : Prop :=
  ∀ {G H : Hp} {σ : St} {e : En} {A : List Addr} {ds : List PyData} {e' : En} {Q : List V → Hp → Prop}, Stt K m G H σ e A → f e = some (ds, e') →
    (∀ (G' H' : Hp) (vs : List V) (Av A' : List Addr), Step A G H (Av ++ A') G' H' → Stt K m' G' H' σ e' A' → OwnA K G' H' tys ds (vs.map some) Av → (Av ++ A').Nodup → LendOk σ vs L → Q vs H') → ta σ H Q
structure PAL {ι : Type} (Xf : ι → Cx) (K : PySem.W.Frag) (m : List Ty) (es : List Expr) (tys : List Ty) (L : List (Option Nat)) (f : Lf) (m' : List Ty) : Prop where
  ex : ∃ ta : TA, (∀ i, PA (Xf i) es ta) ∧ DAL K m ta tys L f m'
def lNil : Lf := fun e => some ([], e)
def lCons (f : Ef) (r : Lf) : Lf := fun e => (f e).bind fun p => (r p.2).bind fun q => some (p.1 :: q.1, q.2)
def eLend : Ef := fun e => some (.none, e)
section
variable {ι : Type} {Xf : ι → Cx} {P : Program} {w : World} {K : PySem.W.Frag} {mg : Str → Option Value} {base : Heap} {n : Nat} [F : Fam Xf P w K mg base n]
variable {m m1 m2 m3 : List Ty} {pos p p2 : Pos} {a b c : Expr} {es : List Expr} {f g h : Ef} {fr : Lf} {ty : Ty} {tys : List Ty} {L : List (Option Nat)}
theorem pl_nil : PAL Xf K m [] [] [] lNil m := ⟨_, fun i => pa_nil, fun {G H σ e A ds e' Q} st hf k => by
  cases hf
  exact k G H [] [] A Step.refl st .nil st.nd fun k j h => by simp at h⟩
theorem DAL.cons {te : TE} {ta : TA} (ha : DE K m te ty f m1) (hr : DAL K m1 ta tys L fr m2) : DAL K m (tCons te ta) (ty :: tys) (none :: L) (lCons f fr) m2 := by
  intro G H σ e A ds e' Q st hf k
  unfold lCons at hf
  obtain ⟨⟨d1, e1⟩, hf1, hf⟩ := Option.bind_eq_some_iff.mp hf
  obtain ⟨⟨ds1, e2⟩, hf2, hf⟩ := Option.bind_eq_some_iff.mp hf
  cases hf
  refine ha st hf1 fun G1 H1 v1 A1 B1 s1 st1 o1 nd1 => hr st1 hf2 fun G2 H2 vs A2 B2 s2 st2 o2 nd2 hl => ?_
  obtain ⟨s3, nd3, hg, hh⟩ := s1.seq (own_at o1) nd1 s2 nd2
  rw [← List.append_assoc] at s3 nd3
  refine k G2 H2 (v1 :: vs) (A1 ++ A2) B2 s3 st2 (.cons (own_fr o1 s2.sg hg hh) o2) nd3 fun kk j hj => ?_
  cases kk with
  | zero => simp at hj
  | succ kk => exact hl kk j (by simpa using hj)
theorem pl_cons (ha : PD Xf K m a ty f m1) (hr : PAL Xf K m1 es tys L fr m2) (hs : ∀ i, starEach (a :: es) (Xf i).env = (false, eval a (Xf i).env) :: starEach es (Xf i).env := by intro _; rfl) : PAL Xf K m (a :: es) (ty :: tys) (none :: L) (lCons f fr) m2 := by
  obtain ⟨ta, pa, da⟩ := ha.ex
  obtain ⟨tr, pr, dr⟩ := hr.ex
  exact ⟨_, fun i => pa_cons (pa i) (pr i) (hs i), DAL.cons da dr⟩
/-- a slot's own object handed in as it is -/
theorem pl_lend (j : Nat) {x : Str} {t : Ty} (hr : PAL Xf K m es tys L fr m2) (hm : m[j]? = some t := by rfl) (hu : t ≠ .u := by exact fun z => nomatch z) (hN : ∀ i, (Xf i).N[j]? = some x := by intro _; rfl)
    (hv : ∀ i, Vis (Xf i).env.scope x := by first | (intro _; exact Or.inl rfl) | (intro _; exact Or.inr (Or.inl rfl)) | (intro _; exact Or.inr (Or.inr rfl))) (hd : (x == ("__debug__" : Str)) = false := by decide)
    (hcd : (x == ("__classdict__" : Str)) = false := by decide) (hs : ∀ i, starEach (.Name x pos :: es) (Xf i).env = (false, eval (.Name x pos) (Xf i).env) :: starEach es (Xf i).env := by intro _; rfl) :
    PAL Xf K m (.Name x pos :: es) (.u :: tys) (some j :: L) (lCons eLend fr) m2 := by
  obtain ⟨tr, pr, dr⟩ := hr.ex
  refine ⟨_, fun i => pa_cons (pe_var (i := j) (hN i) (hv i) hd hcd) (pr i) (hs i), fun {G H σ e A ds e' Q} st hf k => ?_⟩
  unfold lCons eLend at hf
  obtain ⟨⟨d1, e1⟩, hf1, hf⟩ := Option.bind_eq_some_iff.mp hf
  cases hf1
  obtain ⟨⟨ds1, e2⟩, hf2, hf⟩ := Option.bind_eq_some_iff.mp hf
  cases hf
  obtain ⟨d', v, Aj, A0, h1, h2, h3, h4, hp⟩ := ownA_take st.own hm
  have hv : ∃ x, v = some x := by
    cases h3 with
    | u => exact absurd rfl hu
    | s => exact ⟨_, rfl⟩
    | e => exact ⟨_, rfl⟩
    | k => exact ⟨_, rfl⟩
    | a => exact ⟨_, rfl⟩
    | q => exact ⟨_, rfl⟩
    | d => exact ⟨_, rfl⟩
    | t => exact ⟨_, rfl⟩
    | o => exact ⟨_, rfl⟩
    | f => exact ⟨_, rfl⟩
    | x => exact ⟨_, rfl⟩
    | l => exact ⟨_, rfl⟩
    | r => exact ⟨_, rfl⟩
  obtain ⟨x, rfl⟩ := hv
  refine ⟨x, h2, dr st hf2 fun G2 H2 vs A2 B2 s2 st2 o2 nd2 hl => k G2 H2 (x :: vs) A2 B2 s2 st2 (OwnA.cons (A := []) (.u _ _) o2) nd2 fun kk j' hj => ?_⟩
  cases kk with
  | zero =>
    simp at hj
    subst hj
    exact ⟨x, rfl, h2⟩
  | succ kk => exact hl kk j' (by simpa using hj)

/-! ### displays -/
def eTup (r : Lf) : Ef := fun e => (r e).bind fun p => some (.tuple p.1, p.2)
def eLst (r : Lf) : Ef := fun e => (r e).bind fun p => some (.list p.1, p.2)
theorem pd_tup {k : Nat} (hr : PAL Xf K m es (List.replicate k .s) L fr m1) (hk : es.length = k := by rfl) (hz : k ≤ sizeLine := by decide) {x1} : PD Xf K m (.Tuple es x1 pos) .s (eTup fr) m1 := by
  obtain ⟨tr, pr, dr⟩ := hr.ex
  refine ⟨_, fun i => pe_tupN (pr i), fun {G H σ e A d e' Q} st hf k' => ?_⟩
  unfold eTup at hf
  obtain ⟨⟨ds1, e1⟩, hf1, hf⟩ := Option.bind_eq_some_iff.mp hf
  cases hf
  refine dr st hf1 fun G1 H1 vs A1 B1 s1 st1 o1 nd1 _ => ?_
  obtain ⟨e0, q⟩ := of_ownA o1
  subst e0
  have hl := (ownA_len o1).1
  rw [List.length_replicate] at hl
  have hz2 : vs.length ≤ sizeLine := by rw [q.1, ← hl]; exact hz
  exact ⟨hz2, ans_tup st1 q hz2 fun G2 H2 v2 A2 B2 s2 st2 o2 nd2 => k' _ _ _ _ _ (s1.seq0 s2) st2 o2 nd2⟩
theorem DAL.lst {ta : TA} {tyR : Ty} {tys : List Ty} (dr : DAL K m ta tys L fr m1) (hz : tys.length ≤ sizeLine) (mk : ∀ {G H : Hp} {a : Addr} {vs : List V} {ds : List PyData} {A : List Addr}, G a = none → H a = some (.lst vs) → vs.length ≤ sizeLine → OwnA K G H tys ds (vs.map some) A → Own K G H tyR (.list ds) (some (.ref a)) (a :: A)) : DE K m (tLst ta) tyR (eLst fr) m1 := by
  intro G H σ e A d e' Q st hf k'
  unfold eLst at hf
  obtain ⟨⟨ds1, e1⟩, hf1, hf⟩ := Option.bind_eq_some_iff.mp hf
  cases hf
  refine dr st hf1 fun G1 H1 vs A1 B1 s1 st1 o1 nd1 _ => ?_
  have hl := ownA_len o1
  have hz2 : vs.length ≤ sizeLine := by have := hl.2; rw [List.length_map] at this; omega
  refine ⟨hz2, fun p hp => ?_⟩
  obtain ⟨s2, st2, nd2, gp⟩ := new_o (o := .lst vs) (B := []) st1 hp
  have nv : ∀ a ∈ A1, a ≠ p := fun a ha z => by obtain ⟨_, o, e⟩ := ownA_at o1 a ha; rw [z, hp] at e; cases e
  have o1' : OwnA K G1 (upd H1 p (.lst vs)) tys ds1 (vs.map some) A1 := ownA_fr o1 (Same.refl _) (fun a ha => (ownA_at o1 a ha).1) fun a ha => upd_ne (nv a ha)
  have nd3 : (p :: (A1 ++ B1)).Nodup := List.nodup_cons.mpr ⟨fun h => (List.mem_append.mp h).elim (fun h => nv p h rfl) fun h => (List.nodup_cons.mp nd2).1 h, nd1⟩
  refine k' G1 (upd H1 p (.lst vs)) (.ref p) (p :: A1) B1 ?_ st2 (mk gp upd_same hz2 o1') nd3
  refine ⟨s1.sg, fun a o h ha => ?_, fun a ha => ?_, s1.gnew⟩
  · have h1 := s1.fr a o h ha
    rw [upd_ne (ne_of_none h1 hp)]; exact h1
  · rcases List.mem_cons.mp ha with rfl | ha
    · exact s1.back hp
    · exact s1.own a ha
/-- a list display, all items of one type -/
theorem pd_lst {k : Nat} (t : Ty) (hr : PAL Xf K m es (List.replicate k t) L fr m1) (hz : k ≤ sizeLine := by decide) : PD Xf K m (.List es pos) (.l t) (eLst fr) m1 := by
  obtain ⟨tr, pr, dr⟩ := hr.ex
  refine ⟨_, fun i => pe_lst (pr i), DAL.lst dr (by rw [List.length_replicate]; exact hz) fun h1 h2 h3 o => .l h1 h2 h3 ?_⟩
  have hl := (ownA_len o).1
  rw [List.length_replicate] at hl
  rw [← hl]; exact o
/-- a list display of a fixed shape -/
theorem pd_rec (hr : PAL Xf K m es tys L fr m1) (hz : tys.length ≤ sizeLine := by decide) : PD Xf K m (.List es pos) (.r tys) (eLst fr) m1 := by
  obtain ⟨tr, pr, dr⟩ := hr.ex
  exact ⟨_, fun i => pe_lst (pr i), DAL.lst dr hz fun h1 h2 h3 o => .r h1 h2 h3 o⟩
end
end DL

namespace DL
open PySem L2 PySem.Spec

/-! ### masks weakened -/
inductive LeT : Ty → Ty → Prop
  | rfl (t : Ty) : LeT t t
  | u (t : Ty) : LeT t .u
  | s (t : Ty) (h : nou t = true) : LeT t .s
  | kr (v2 : V) (t0 t1 t2 : Ty) : LeT (.r [t0, t1, .k v2 t2]) (.r [t0, t1, t2])
  | kd (v : V) (t : Ty) : LeT (.k v t) t
  | f (C : Addr) (ns : List Str) (ts : List Ty) (h : nouL ts = true) : LeT (.o C ns ts) (.f C ns)
theorem frz_allT {K : PySem.W.Frag} {G G' H : Hp} (e : Same G G') : ∀ {ts : List Ty} {ds : List PyData} {vs : List V} {A : List Addr}, OwnA K G H ts ds (vs.map some) A → (∀ a ∈ A, G' a = H a) → nouL ts = true → DqA K G' vs ds
  | [], ds, vs, A, o, hg, hn => by
    cases vs with
    | nil => cases o; exact DqA.nil
    | cons v vs => cases o
  | t :: ts, ds, vs, A, o, hg, hn => by
    cases vs with
    | nil => cases o
    | cons v vs =>
      have o : OwnA K G H (t :: ts) ds (some v :: vs.map some) A := o
      cases o with
      | @cons _ _ d ds' _ _ A1 B1 o1 o2 =>
        have hn : (nou t && nouL ts) = true := hn
        rw [Bool.and_eq_true] at hn
        obtain ⟨x, hx, q⟩ := own_frz o1 e (fun a ha => hg a (List.mem_append_left _ ha)) hn.1
        cases hx
        exact DqA.cons q (frz_allT e o2 (fun a ha => hg a (List.mem_append_right _ ha)) hn.2)
theorem own_of_k {K : PySem.W.Frag} {G H : Hp} {v : V} {t : Ty} {d : PyData} {x : Option V} {A : List Addr} (h : Own K G H (.k v t) d x A) : x = some v ∧ Own K G H t d x A := by
  cases h with
  | k h => exact ⟨rfl, h⟩
theorem ownA_unk3 {K : PySem.W.Frag} {G H : Hp} {v2 : V} {t0 t1 t2 : Ty} {ds : List PyData} {vs : List (Option V)} {A : List Addr} (h : OwnA K G H [t0, t1, .k v2 t2] ds vs A) : OwnA K G H [t0, t1, t2] ds vs A := by
  cases h with
  | cons h1 h =>
    cases h with
    | cons h2 h =>
      cases h with
      | cons h3 h =>
        cases h
        exact .cons h1 (.cons h2 (.cons (own_of_k h3).2 .nil))
theorem own_unk {K : PySem.W.Frag} {G H : Hp} {v2 : V} {t0 t1 t2 : Ty} {d : PyData} {v : Option V} {A : List Addr} (h : Own K G H (.r [t0, t1, .k v2 t2]) d v A) : Own K G H (.r [t0, t1, t2]) d v A := by
  cases h with
  | r ga ha hz o => exact .r ga ha hz (ownA_unk3 o)
inductive LeM : List Ty → List Ty → Prop
  | nil : LeM [] []
  | cons {t t' : Ty} {m m' : List Ty} : LeT t t' → LeM m m' → LeM (t :: m) (t' :: m')
theorem LeM.refl : ∀ m : List Ty, LeM m m
  | [] => .nil
  | t :: m => .cons (.rfl t) (LeM.refl m)
section
variable {K : PySem.W.Frag} {G H : Hp}
theorem ownA_le {m m' : List Ty} (l : LeM m m') : ∀ {e : En} {σ : St} {A : List Addr}, OwnA K G H m e σ A →
    ∃ Fz Dr A' : List Addr, A.Perm (Fz ++ (Dr ++ A')) ∧ ∀ G' : Hp, Same G G' → (∀ a ∈ Fz, G' a = H a) → (∀ a ∈ A', G' a = none) → OwnA K G' H m' e σ A' := by
  induction l with
  | nil => intro e σ A h; cases h; exact ⟨[], [], [], by simp, fun _ _ _ _ => .nil⟩
  | @cons t t' m m' lt lm ih =>
    intro e σ A h
    cases h with
    | @cons _ _ d ds v vs A1 A2 h1 h2 =>
      obtain ⟨Fz, Dr, A', p, k⟩ := ih h2
      cases lt with
      | rfl =>
        refine ⟨Fz, Dr, A1 ++ A', ?_, fun G' sg hf ha => .cons (own_fr h1 sg (fun a h => ha a (List.mem_append_left _ h)) fun _ _ => rfl) (k G' sg hf fun a h => ha a (List.mem_append_right _ h))⟩
        refine (List.Perm.append_left A1 p).trans (List.perm_iff_count.mpr fun z => ?_)
        simp only [List.count_append]; omega
      | kr v2 t0 t1 t2 =>
        refine ⟨Fz, Dr, A1 ++ A', ?_, fun G' sg hf ha => .cons (own_unk (own_fr h1 sg (fun a h => ha a (List.mem_append_left _ h)) fun _ _ => rfl)) (k G' sg hf fun a h => ha a (List.mem_append_right _ h))⟩
        refine (List.Perm.append_left A1 p).trans (List.perm_iff_count.mpr fun z => ?_)
        simp only [List.count_append]; omega
      | kd v2 t0 =>
        refine ⟨Fz, Dr, A1 ++ A', ?_, fun G' sg hf ha => .cons (own_fr (own_of_k h1).2 sg (fun a h => ha a (List.mem_append_left _ h)) fun _ _ => rfl) (k G' sg hf fun a h => ha a (List.mem_append_right _ h))⟩
        refine (List.Perm.append_left A1 p).trans (List.perm_iff_count.mpr fun z => ?_)
        simp only [List.count_append]; omega
      | u =>
        refine ⟨Fz, A1 ++ Dr, A', ?_, fun G' sg hf ha => OwnA.cons (A := []) (.u _ _) (k G' sg hf ha)⟩
        refine (List.Perm.append_left A1 p).trans (List.perm_iff_count.mpr fun z => ?_)
        simp only [List.count_append]; omega
      | f C ns ts hno =>
        refine ⟨A1 ++ Fz, Dr, A', ?_, fun G' sg hf ha => ?_⟩
        · rw [List.append_assoc]; exact List.Perm.append_left A1 p
        · cases h1 with
          | @o _ dx a _ _ fs ds Ai ga gd ha1 hdx hn oi =>
            have oi2 : OwnA K G H ts ds ((fs.map (·.2)).map some) Ai := by rw [List.map_map]; exact oi
            have q := frz_allT sg oi2 (fun b hb => hf b (List.mem_append_left _ (List.mem_cons_of_mem _ (List.mem_cons_of_mem _ hb)))) hno
            exact OwnA.cons (A := []) (.f (by rw [hf a (List.mem_append_left _ (List.mem_cons_self ..))]; exact ha1) hn q) (k G' sg (fun b h => hf b (List.mem_append_right _ h)) ha)
      | s _ hno =>
        refine ⟨A1 ++ Fz, Dr, A', ?_, fun G' sg hf ha => ?_⟩
        · rw [List.append_assoc]; exact List.Perm.append_left A1 p
        · obtain ⟨x, hx, q⟩ := own_frz h1 sg (fun a h => hf a (List.mem_append_left _ h)) hno
          subst hx
          exact OwnA.cons (A := []) (.s q) (k G' sg (fun a h => hf a (List.mem_append_right _ h)) ha)
theorem stt_le {m m' : List Ty} (l : LeM m m') {e : En} {σ : St} {A : List Addr} (st : Stt K m G H σ e A) : ∃ G' A', Step A G H A' G' H ∧ Stt K m' G' H σ e A' := by
  obtain ⟨Fz, Dr, A', p, k⟩ := ownA_le l st.own
  have nd := p.nodup_iff.mp st.nd
  have inA : ∀ a, a ∈ Fz → a ∈ A := fun a h => p.mem_iff.mpr (List.mem_append_left _ h)
  have inA' : ∀ a, a ∈ A' → a ∈ A := fun a h => p.mem_iff.mpr (List.mem_append_right _ (List.mem_append_right _ h))
  have sg : Same G (lay G H Fz) := fun b x hx => by
    by_cases q : b ∈ Fz
    · rw [(ownA_at st.own b (inA b q)).1] at hx; cases hx
    · rw [lay_out q]; exact hx
  have dis : ∀ a ∈ A', a ∉ Fz := fun a ha hb => (List.nodup_append.mp nd).2.2 a hb a (List.mem_append_right _ ha) rfl
  refine ⟨lay G H Fz, A', ⟨sg, fun a o h _ => h, fun a ha => .inl (inA' a ha), fun a h1 ⟨o, h2⟩ => ?_⟩, ⟨k _ sg (fun a ha => lay_in ha) fun a ha => ?_, (List.nodup_append.mp (List.nodup_append.mp nd).2.1).2.1, fun b x hx => ?_⟩⟩
  · by_cases q : a ∈ Fz
    · exact .inl (inA a q)
    · rw [lay_out q, h1] at h2; cases h2
  · rw [lay_out (dis a ha)]; exact (ownA_at st.own a (inA' a ha)).1
  · by_cases q : b ∈ Fz
    · rw [lay_in q] at hx; exact hx
    · rw [lay_out q] at hx; exact st.sub b x hx
end

/-! ### a def's promise over data; the call -/
abbrev DFn := List PyData → Option (PyData × List PyData)
def spD (K : PySem.W.Frag) (ptys : List Ty) (rty : Ty) (Fn : DFn) : Sp := fun vs H Q _ =>
  ∃ (ds : List PyData) (d : PyData) (fs : List PyData) (G : Hp) (A : List Addr), Fn ds = some (d, fs) ∧ OwnA K G H ptys ds (vs.map some) A ∧ A.Nodup ∧ Same G H ∧
    ∀ (G' H' : Hp) (v : V) (Av A' : List Addr), Step A G H (Av ++ A') G' H' → OwnA K G' H' ptys fs (vs.map some) A' → Own K G' H' rty d (some v) Av → (Av ++ A').Nodup → Same G' H' → Q v H'
/-- the promise kept wherever no text of an object is under way -/
structure FnG (P : Program) (w : World) (K : PySem.W.Frag) (mg : Str → Option Value) (base : Heap) (k : Nat) (f : Addr) (fd : FuncData) (ps : List Str) (sp : Sp) : Prop where
  len : ∀ vs H Q E, sp vs H Q E → vs.length = ps.length
  run : ∀ (A : Around) (outer : List Env) (s : Shared) (H : Hp) (args : Args) (us : List Value) (vs : List V) (Q : VK) (E : XK), Room k A → A.guards = some [] → Env0 P w K mg base A outer s H → BindsTo s fd args (ps.zip us) → Vals vs us → sp vs H Q E →
    codeAny (model P w) A (.call (.ref f) args) (CR CX0 outer P w H s Q E) s
/-- a def of the module, to be called by its name -/
structure CalG (P : Program) (w : World) (K : PySem.W.Frag) (mg : Str → Option Value) (base : Heap) (k : Nat) (x : Str) (ptys : List Ty) (rty : Ty) (Fn : DFn) : Prop where
  ex : ∃ (f : Addr) (fd : FuncData) (ps : List Str), FnG P w K mg base k f fd ps (spD K ptys rty Fn) ∧ mg x = some (.ref f) ∧ PySem.W.keepIn K (.ref f) = true ∧ Binds K fd ps []
class FamG {ι : Type} (Xf : ι → Cx) : Prop where
  gd : ∀ i, (Xf i).A.guards = some []
  calm : ∀ i, (Xf i).calm = true
  hd : ∀ i, (Xf i).A.handled = none
theorem rmOf {ι : Type} {Xf : ι → Cx} {P : Program} {w : World} {K : PySem.W.Frag} {mg : Str → Option Value} {base : Heap} {n : Nat} (F : Fam Xf P w K mg base n) (FG : FamG Xf) (i : ι) : Room n (Xf i).A := ⟨FG.hd i, (F.room i).dp, (F.room i).un⟩

theorem fnG_of {P : Program} {w : World} {K : PySem.W.Frag} {mg : Str → Option Value} {base : Heap} {x qual : Str} {st : Stmt} {f : Addr} {fd : FuncData} {N ps : List Str} {k : Nat} {sp : Sp} (F : L2.Fun K x qual st f fd) (S : FnScope N ps (defScope st)) (len : ∀ vs H Q E, sp vs H Q E → vs.length = ps.length)
    (hbody : ∀ (cdv : Value) (A : Around) (outer : List Env) (s : Shared) (H : Hp) (vs : List V) (Q : VK) (E : XK), Room k (A.deeper (PyProof.Rows.envOfC qual (defScope st) s.heap.objs.size f cdv)) → (A.deeper (PyProof.Rows.envOfC qual (defScope st) s.heap.objs.size f cdv)).guards = some [] → sp vs H Q E →
      ∃ t, PSs (cxOf CX0 P w K mg base N qual (defScope st) f cdv A outer s H E).nox (defBody st) t ∧ t { nx := fun _ H' => Q .non H', rt := Q } (start N vs) H) : FnG P w K mg base (k + 1) f fd ps sp := by
  obtain ⟨oc, od, kV, doc, pm, an, cdv, ct, osl, rfl, lk, hcd⟩ := F.ex
  refine ⟨len, fun A outer s H args us vs Q E room gd e0 bind rel wish => ?_⟩
  have KX : K.In s.heap := e0.mod.kin.keeps fun b o e => (e0.bs b o e).1
  obtain ⟨t, bt, bq⟩ := hbody cdv A outer s H vs Q E (room.deeper _) gd wish
  have kinds : ∀ y ∈ ps.zip us, (defScope st).names.lookup y.1 = some .local ∨ ((defScope st).names.lookup y.1 = some .cell ∧ ((cellsFrom (s.heap.objs.size + 1) (defScope st).names []).lookup y.1).isSome = true) := by
    rintro ⟨nm, val⟩ hy
    have hp := S.par nm (List.of_mem_zip hy).1
    exact hp.imp id fun c => ⟨c, PySem.W.cellsFrom_some _ _ _ (.inl c)⟩
  refine codeAny_call_function room.depth (KX _ _ lk) rfl S.co S.gen rfl (PySem.W.codeRec_of KX hcd) (bind _ _ _ _ ?_)
  refine wpAny_newFunctionEnv_cells S.kind kinds fun env he s1 ic => ?_
  subst he
  have lim := e0.mod.nolimit.keeps fun b o e => (e0.bs b o e).1
  refine ⟨Heap.NoLimit.keeps lim ic.toInCall.keep, codeAny_func ?_⟩
  have I0 := inv_start (CX := CX0) (E := E) S room.hd e0 (len _ _ _ _ wish) rel ic
  refine wpAny_mono (bt.nox.run [] s1 _ H _ I0 bq) ?_ fun e s' z => z
  intro fl s' z
  cases fl with
  | ret u => obtain ⟨v, σ', H', J, rv, q⟩ := z; exact ⟨v, H', J.os, J.bare, J.base, J.hok, rv, q⟩
  | next => obtain ⟨σ', H', J, q⟩ := z; exact ⟨V.non, H', J.os, J.bare, J.base, J.hok, rfl, q⟩
  | brk => obtain ⟨_, _, _, q⟩ := z; exact q.elim
  | cont => obtain ⟨_, _, _, q⟩ := z; exact q.elim

def eCall (Fn : DFn) (r : Lf) : Ef := fun e => (r e).bind fun p => (Fn p.1).bind fun q => some (q.1, p.2)
/-- one argument, the k-th, is lent from slot j -/
def eCallL (Fn : DFn) (k j : Nat) (r : Lf) : Ef := fun e => (r e).bind fun p => (Fn (p.1.set k (p.2.getD j .none))).bind fun q => some (q.1, p.2.set j (q.2.getD k .none))

section
variable {ι : Type} {Xf : ι → Cx} {P : Program} {w : World} {K : PySem.W.Frag} {mg : Str → Option Value} {base : Heap} {n : Nat} [F : Fam Xf P w K mg base n] [FG : FamG Xf]
variable {m m1 m2 m3 : List Ty} {pos p p2 : Pos} {a b c : Expr} {es : List Expr} {f g h : Ef} {fr : Lf} {ty : Ty} {tys : List Ty} {L : List (Option Nat)}

theorem run_fnG {X : Cx} {k : Nat} {fa : Addr} {fd : FuncData} {ps : List Str} {sp : Sp} {pins : List (Addr × Obj)} {σ : St} {H : Hp} {s : Shared} {Q : VK} {E : XK} {us : List Value} {vs : List V} (Fn : FnG X.prog X.w X.K X.mg X.base k fa fd ps sp) (hr : Room k X.A) (hg : X.A.guards = some []) (hb : Binds X.K fd ps [])
    (I : L2.Inv X pins σ H s) (r : Vals vs us) (h : sp vs H Q E) : wpAny (model X.prog X.w) X.A (call (.ref fa) us) (EP X pins σ Q) X.xe s := by
  have hl : (us ++ []).length = ps.length := by rw [List.append_nil, ← r.length]; exact Fn.len _ _ _ _ h
  have hb' := hb s us I.kIn hl
  rw [List.append_nil] at hb'
  refine wpAny_call (codeAny_mono (Fn.run X.A X.stack s H ⟨us, []⟩ us vs Q E hr hg I.env0 hb' r h) ?_)
  intro z s' hq
  match z, hq with
  | .ok (.ret u), hq => exact I.after hq
  | .error e, hq => exact False.elim hq
  | .ok .next, hq => exact False.elim hq
  | .ok .brk, hq => exact False.elim hq
  | .ok .cont, hq => exact False.elim hq

/-- f(a, ..) -/
def tCallG (sp : Sp) (t : TA) : TE := fun σ H Q => t σ H fun vs H1 => sp vs H1 Q fun _ _ _ => False
include F FG in
theorem pe_callG {k : Nat} {x : Str} {rty : Ty} {Fn : DFn} (c : CalG P w K mg base k x tys rty Fn) (hk : k ≤ n) (i : ι) {t : TA} (hg : Gl (Xf i) x) (ha : PA (Xf i) (a :: es) t)
    (hdb : (x == ("__debug__" : Str)) = false := by decide) (he : starEach (a :: es) (Xf i).env = (false, eval a (Xf i).env) :: starEach es (Xf i).env := by rfl) (hpl : (backTo pos (starEach es (Xf i).env)).any (·.1) = false := by rfl) :
    PE (Xf i) (.Call (.Name x p) (a :: es) [] pos) (tCallG (spD K tys rty Fn) t) := by
  obtain ⟨fa, fd, ps, FN, hm, kp, b⟩ := c.ex
  have e1 := F.prog i
  have e2 := F.w_ i
  have e3 := F.kk i
  have e4 := F.mg_ i
  have e5 := F.base_ i
  refine ⟨fun pins s σ H Q I h => ?_⟩
  refine wpAny_Call_Name_kw (ld_glob I hg (by rw [e4]; exact hm) ?_ hdb)
  refine PySem.W.callWith_K (h₀ := (Xf i).base) I.ok.mod.kin (by rw [e3]; exact kp) (thn (ha.run pos pins s σ H _ I h) fun us s1 ⟨vs, H1, I1, r1, q1⟩ => ⟨I1.kIn, ?_⟩) he hpl
  subst e1 e2 e3 e4 e5
  exact run_fnG FN ((rmOf F FG i).mono hk) (FG.gd i) b I1 r1 q1
include F FG in
theorem pd_call {k : Nat} {x : Str} {rty : Ty} {Fn : DFn} (c : CalG P w K mg base k x tys rty Fn) (ha : PAL Xf K m (a :: es) tys L fr m1) (hk : k ≤ n := by decide) (hg : ∀ i, Gl (Xf i) x := by intro _; rfl)
    (hdb : (x == ("__debug__" : Str)) = false := by decide) (he : ∀ i, starEach (a :: es) (Xf i).env = (false, eval a (Xf i).env) :: starEach es (Xf i).env := by intro _; rfl) (hpl : ∀ i, (backTo pos (starEach es (Xf i).env)).any (·.1) = false := by intro _; rfl) :
    PD Xf K m (.Call (.Name x p) (a :: es) [] pos) rty (eCall Fn fr) m1 := by
  obtain ⟨ta, pa, da⟩ := ha.ex
  refine ⟨_, fun i => pe_callG c hk i (hg i) (pa i) hdb (he i) (hpl i), fun {G H σ e A d e' Q} st hf k' => ?_⟩
  unfold eCall at hf
  obtain ⟨⟨ds, e1⟩, hf1, hf⟩ := Option.bind_eq_some_iff.mp hf
  obtain ⟨⟨d1, fs⟩, hf2, hf⟩ := Option.bind_eq_some_iff.mp hf
  cases hf
  refine da st hf1 fun G1 H1 vs A1 B1 s1 st1 o1 nd1 _ => ?_
  have nd := List.nodup_append.mp nd1
  refine ⟨ds, _, fs, G1, A1, hf2, o1, nd.1, st1.sub, fun G2 H2 v Av A2 s2 o2 ov nd2 sub2 => ?_⟩
  -- the state's own objects are kept aside
  have nd1' : (B1 ++ A1).Nodup := List.nodup_append.mpr ⟨nd.2.1, nd.1, fun a ha b hb z => nd.2.2 b hb a ha z.symm⟩
  have s1' : Step A G H (B1 ++ A1) G1 H1 := ⟨s1.sg, s1.fr, fun a ha => s1.own a ((List.mem_append.mp ha).elim (fun z => List.mem_append_right _ z) fun z => List.mem_append_left _ z), s1.gnew⟩
  obtain ⟨s3, nd3, hg', hh'⟩ := s1'.seq (ownA_at st1.own) nd1' s2 nd2
  have n3 := List.nodup_append.mp nd3
  have n4 := List.nodup_append.mp n3.2.1
  have st2 : Stt K m1 G2 H2 σ e1 B1 := ⟨ownA_fr st1.own s2.sg hg' hh', st1.nd, sub2⟩
  refine k' G2 H2 v Av B1 (s3.less fun a ha => ?_) st2 ov ?_
  · rcases List.mem_append.mp ha with z | z
    · exact List.mem_append_right _ (List.mem_append_left _ z)
    · exact List.mem_append_left _ z
  · exact List.nodup_append.mpr ⟨n4.1, n3.1, fun a ha b hb z => n3.2.2 b hb a (List.mem_append_left _ ha) z.symm⟩
include F FG in
theorem pd_callL {k kk j : Nat} {x : Str} {rty t : Ty} {Fn : DFn} (c : CalG P w K mg base k x tys rty Fn) {tys' : List Ty} (ha : PAL Xf K m (a :: es) tys' L fr m1) (hm : m1[j]? = some t := by rfl) (hL : L[kk]? = some (some j) := by rfl) (hu : tys'[kk]? = some .u := by rfl) (ht : tys'.set kk t = tys := by rfl)
    (hk : k ≤ n := by decide) (hg : ∀ i, Gl (Xf i) x := by intro _; rfl)
    (hdb : (x == ("__debug__" : Str)) = false := by decide) (he : ∀ i, starEach (a :: es) (Xf i).env = (false, eval a (Xf i).env) :: starEach es (Xf i).env := by intro _; rfl) (hpl : ∀ i, (backTo pos (starEach es (Xf i).env)).any (·.1) = false := by intro _; rfl) :
    PD Xf K m (.Call (.Name x p) (a :: es) [] pos) rty (eCallL Fn kk j fr) m1 := by
  obtain ⟨ta, pa, da⟩ := ha.ex
  refine ⟨_, fun i => pe_callG c hk i (hg i) (pa i) hdb (he i) (hpl i), fun {G H σ e A d e' Q} st hf k' => ?_⟩
  unfold eCallL at hf
  obtain ⟨⟨ds, e1⟩, hf1, hf⟩ := Option.bind_eq_some_iff.mp hf
  obtain ⟨⟨d1, fs⟩, hf2, hf⟩ := Option.bind_eq_some_iff.mp hf
  cases hf
  refine da st hf1 fun G1 H1 vs A1 B1 s1 st1 o1 nd1 lk => ?_
  obtain ⟨dj, vj, Aj, B0, h1, h2, h3, h4, hp⟩ := ownA_take st1.own hm
  obtain ⟨v0, hv0, hs0⟩ := lk kk j hL
  have hvj : vj = some v0 := by rw [hs0] at h2; exact (Option.some.inj h2).symm
  subst hvj
  obtain ⟨A2, o2, p2⟩ := ownA_put o1 hu h3
  rw [ht] at o2
  have hvs : (vs.map some).set kk (some v0) = vs.map some := set_id (by rw [List.getElem?_map, hv0]; rfl)
  rw [hvs] at o2
  have ed : e1.getD j .none = dj := by rw [List.getD_eq_getElem?_getD, h1]; rfl
  rw [ed] at hf2
  have nd := List.nodup_append.mp nd1
  have ndB := List.nodup_append.mp (hp.nodup_iff.mp nd.2.1)
  -- what the callee holds; what is kept aside
  have pall : (A1 ++ B1).Perm (B0 ++ A2) := by
    refine (List.Perm.append_left A1 hp).trans ?_
    refine List.Perm.trans ?_ (List.Perm.append_left B0 p2.symm)
    rw [← List.append_assoc]
    refine List.perm_append_comm.trans (List.Perm.append_left B0 List.perm_append_comm)
  have nd2 : (B0 ++ A2).Nodup := pall.nodup_iff.mp nd1
  have n2 := List.nodup_append.mp nd2
  refine ⟨ds.set kk dj, _, fs, G1, A2, hf2, o2, n2.2.1, st1.sub, fun G2 H2 v Av A3 s2 o3 ov nd3 sub2 => ?_⟩
  have s1' : Step A G H (B0 ++ A2) G1 H1 := ⟨s1.sg, s1.fr, fun a ha => s1.own a (pall.mem_iff.mpr ha), s1.gnew⟩
  obtain ⟨s3, nd4, hg', hh'⟩ := s1'.seq (ownA_at h4) nd2 s2 nd3
  have n4 := List.nodup_append.mp nd4
  have n5 := List.nodup_append.mp n4.2.1
  have o0 := ownA_fr h4 s2.sg hg' hh'
  have hkk : tys[kk]? = some t := by
    rw [← ht]
    have := (List.getElem?_eq_some_iff.mp hu).1
    simp [this]
  obtain ⟨df, vf, Af, A4, g1, g2, g3, g4, gp⟩ := ownA_take o3 hkk
  have hvf : vf = some v0 := by rw [List.getElem?_map, hv0] at g2; exact (Option.some.inj g2).symm
  subst hvf
  have hj : (m1.set j .u)[j]? = some .u := by
    have := (List.getElem?_eq_some_iff.mp hm).1
    simp [this]
  obtain ⟨B2, o4, p4⟩ := ownA_put o0 hj g3
  rw [List.set_set, set_id hm, set_id h2] at o4
  have ef : fs.getD kk .none = df := by rw [List.getD_eq_getElem?_getD, g1]; rfl
  rw [ef] at k'
  have gn := List.nodup_append.mp (gp.nodup_iff.mp n5.2.1)
  have inA3 : ∀ a, a ∈ Af → a ∈ A3 := fun a h => gp.mem_iff.mpr (List.mem_append_left _ h)
  have ndB2 : B2.Nodup := p4.nodup_iff.mpr (List.nodup_append.mpr ⟨gn.1, n4.1, fun a ha b hb z => n4.2.2 b hb a (List.mem_append_right _ (inA3 a ha)) z.symm⟩)
  have inB2 : ∀ a, a ∈ B2 → a ∈ Af ∨ a ∈ B0 := fun a h => List.mem_append.mp (p4.mem_iff.mp h)
  have st2 : Stt K m1 G2 H2 σ (e1.set j df) B2 := ⟨o4, ndB2, sub2⟩
  refine k' G2 H2 v Av B2 (s3.less fun a ha => ?_) st2 ov ?_
  · rcases List.mem_append.mp ha with z | z
    · exact List.mem_append_right _ (List.mem_append_left _ z)
    · rcases inB2 a z with z | z
      · exact List.mem_append_right _ (List.mem_append_right _ (inA3 a z))
      · exact List.mem_append_left _ z
  · refine List.nodup_append.mpr ⟨n5.1, ndB2, fun a ha b hb z => ?_⟩
    subst z
    rcases inB2 a hb with z | z
    · exact n5.2.2 a ha a (inA3 a z) rfl
    · exact n4.2.2 a z a (List.mem_append_left _ ha) rfl
end
end DL

namespace DL
open PySem L2 PySem.Spec

theorem bt_len : bootBuiltins "len" = some (.builtin "len") := by decide +kernel
theorem bt_tuple : bootBuiltins "tuple" = some (.type "tuple") := by decide +kernel
theorem bt_list : bootBuiltins "list" = some (.type "list") := by decide +kernel
theorem bt_int : bootBuiltins "int" = some (.type "int") := by decide +kernel
theorem bt_str : bootBuiltins "str" = some (.type "str") := by decide +kernel
theorem bt_bool : bootBuiltins "bool" = some (.type "bool") := by decide +kernel
theorem bt_sorted : bootBuiltins "sorted" = some (.builtin "sorted") := by decide +kernel
theorem bt_max : bootBuiltins "max" = some (.builtin "max") := by decide +kernel
theorem bt_min : bootBuiltins "min" = some (.builtin "min") := by decide +kernel
theorem bt_all : bootBuiltins "all" = some (.builtin "all") := by decide +kernel
theorem bt_abs : bootBuiltins "abs" = some (.builtin "abs") := by decide +kernel
theorem bt_repr : bootBuiltins "repr" = some (.builtin "repr") := by decide +kernel
theorem bt_isinstance : bootBuiltins "isinstance" = some (.builtin "isinstance") := by decide +kernel

/-! ### what built-ins do to data -/
def gLen : PyData → Option PyData
  | .list xs => some (.int xs.length)
  | .tuple xs => some (.int xs.length)
  | .str z => some (.int z.length)
  | _ => none
def gTuple : PyData → Option PyData
  | .list xs => some (.tuple xs)
  | .tuple xs => some (.tuple xs)
  | _ => none
def gList : PyData → Option PyData
  | .list xs => some (.list xs)
  | .tuple xs => some (.list xs)
  | _ => none
def likeOk (xs : List PyData) : Bool := PyData.plainAll xs && xs.all (fun x => xs.all fun y => PySem.W.alike x y) && xs.all (fun x => match x with | .none => false | _ => true) && decide (PyData.depthAll xs ≤ 60)
def gMax : PyData → Option PyData
  | .list (x :: xs) => if likeOk (x :: xs) = true then some (PySem.W.maxD x xs) else none
  | .tuple (x :: xs) => if likeOk (x :: xs) = true then some (PySem.W.maxD x xs) else none
  | _ => none
def gMin : PyData → Option PyData
  | .list (x :: xs) => if likeOk (x :: xs) = true then some (PySem.W.minD x xs) else none
  | .tuple (x :: xs) => if likeOk (x :: xs) = true then some (PySem.W.minD x xs) else none
  | _ => none
def gMax2 : PyData → PyData → Option PyData
  | .int i, .int j => some (.int (if j > i then j else i))
  | _, _ => none
def intsOf : List PyData → Option (List Int)
  | [] => some []
  | .int i :: r => (intsOf r).map (i :: ·)
  | _ :: _ => none
def gAll : PyData → Option PyData
  | .list xs => if PyData.plainAll xs = true then some (.bool (xs.all PyData.truthy)) else none
  | .tuple xs => if PyData.plainAll xs = true then some (.bool (xs.all PyData.truthy)) else none
  | _ => none
def gAbs : PyData → Option PyData
  | .int i => some (.int (if i < 0 then -i else i))
  | _ => none
def gInt : PyData → Option PyData
  | .int i => some (.int i)
  | .bool b => some (.int (if b then 1 else 0))
  | _ => none
def gRepr (d : PyData) : Option PyData := if d.showable = true ∧ d.depth ≤ 58 ∧ d.shown.length ≤ sizeLine then some (.str d.shown) else none

section
variable {ι : Type} {Xf : ι → Cx} {P : Program} {w : World} {K : PySem.W.Frag} {mg : Str → Option Value} {base : Heap} {n : Nat} [F : Fam Xf P w K mg base n]
theorem depthAll_mem : ∀ {xs : List PyData} {x : PyData}, x ∈ xs → x.depth ≤ PyData.depthAll xs
  | y :: ys, x, h => by
    unfold PyData.depthAll
    rcases List.mem_cons.mp h with rfl | h
    · exact Nat.le_max_left _ _
    · exact Nat.le_trans (depthAll_mem h) (Nat.le_max_right _ _)
theorem plain_mem : ∀ {xs : List PyData} {x : PyData}, PyData.plainAll xs = true → x ∈ xs → x.plain = true
  | y :: ys, x, hp, h => by
    unfold PyData.plainAll at hp
    simp only [Bool.and_eq_true] at hp
    rcases List.mem_cons.mp h with rfl | h
    · exact hp.1
    · exact plain_mem hp.2 h
theorem like_ok {xs : List PyData} (h : likeOk xs = true) : PySem.W.AlikeAll xs ∧ PyData.depthAll xs ≤ 60 ∧ PyData.plainAll xs = true := by
  unfold likeOk at h
  simp only [Bool.and_eq_true, List.all_eq_true, decide_eq_true_eq] at h
  refine ⟨⟨fun x hx y hy => h.1.1.2 x hx y hy, fun x hx e => ?_⟩, h.2, h.1.1.1⟩
  have := h.1.2 x hx
  subst e
  simp at this
theorem reads_same {h : Heap} {v : Value} {d d' : PyData} {as as' : List Addr} (hp : d.plain = true) (r : Reads h v d as) (r' : Reads h v d' as') : d = d' := PySem.SeqAt.plain_unique d d' v as as' hp r r'
theorem dqA_at {X : Cx} {pins : List (Addr × Obj)} {σ : St} {H : Hp} {s : Shared} (I : L2.Inv X pins σ H s) {xs : List V} {ds : List PyData} (q : DqA X.K H xs ds) {its : List Value} (rv : Vals xs its) {i : Nat} {u : Value} (hu : its[i]? = some u) :
    ∃ v d as, xs[i]? = some v ∧ ds[i]? = some d ∧ RelV v u ∧ Dq X.K H v d ∧ Reads s.heap u d as := by
  have hi : i < its.length := (List.getElem?_eq_some_iff.mp hu).1
  have hx : i < xs.length := by rw [rv.length]; exact hi
  have hd : i < ds.length := by rw [← q.1]; exact hx
  have h1 : xs[i]? = some xs[i] := List.getElem?_eq_getElem hx
  have h2 : ds[i]? = some ds[i] := List.getElem?_eq_getElem hd
  obtain ⟨u', hu', r⟩ := rv.get h1
  rw [hu] at hu'
  cases hu'
  have qv := q.2 i _ _ h1 h2
  obtain ⟨as, rd⟩ := qv.reads I r
  exact ⟨_, _, as, h1, h2, r, qv, rd⟩
include F
theorem pd_b1 {m m1 : List Ty} {pos p : Pos} {a : Expr} {f : Ef} {x : Str} {id : String} {ty : Ty} {gg : PyData → Option PyData} (hc : Cl1 Xf K (.builtin id) ty gg) (hm : mg x = none) (hv : bootBuiltins x = some (.builtin id)) (ha : PD Xf K m a .s f m1) (hg : ∀ i, Gl (Xf i) x := by intro _; rfl)
    (hn : x ≠ "__name__" := by decide) (hdb : (x == ("__debug__" : Str)) = false := by decide) (he : ∀ i, starEach [a] (Xf i).env = (false, eval a (Xf i).env) :: starEach [] (Xf i).env := by intro _; rfl) (hpl : ∀ i, (backTo pos (starEach [] (Xf i).env)).any (·.1) = false := by intro _; rfl) :
    PD Xf K m (.Call (.Name x p) [a] [] pos) ty (e1 gg f) m1 := by
  obtain ⟨r, hr, dr⟩ := hc.ex
  obtain ⟨ta, pa, da⟩ := ha.ex
  exact ⟨_, fun i => pe_callB (hr i) (hg i) (by rw [F.mg_ i]; exact hm) hv (pa_cons (pa i) pa_nil (he i)) hn hdb (he i) (hpl i), DE.un da dr⟩
theorem pd_t1 {m m1 : List Ty} {pos p : Pos} {a : Expr} {f : Ef} {x : Str} {T : String} {ty : Ty} {gg : PyData → Option PyData} (hc : Cl1 Xf K (.type T) ty gg) (hm : mg x = none) (hv : bootBuiltins x = some (.type T)) (ha : PD Xf K m a .s f m1) (hg : ∀ i, Gl (Xf i) x := by intro _; rfl)
    (hn : x ≠ "__name__" := by decide) (hdb : (x == ("__debug__" : Str)) = false := by decide) (he : ∀ i, starEach [a] (Xf i).env = (false, eval a (Xf i).env) :: starEach [] (Xf i).env := by intro _; rfl) (hpl : ∀ i, (backTo pos (starEach [] (Xf i).env)).any (·.1) = false := by intro _; rfl) :
    PD Xf K m (.Call (.Name x p) [a] [] pos) ty (e1 gg f) m1 := by
  obtain ⟨r, hr, dr⟩ := hc.ex
  obtain ⟨ta, pa, da⟩ := ha.ex
  exact ⟨_, fun i => pe_callTy (hr i) (hg i) (by rw [F.mg_ i]; exact hm) hv (pa_cons (pa i) pa_nil (he i)) hn hdb (he i) (hpl i), DE.un da dr⟩
theorem pd_b2 {m m1 m2 : List Ty} {pos p : Pos} {a b : Expr} {f g : Ef} {x : Str} {id : String} {ty : Ty} {gg : PyData → PyData → Option PyData} (hc : Cl2 Xf K (.builtin id) ty gg) (hm : mg x = none) (hv : bootBuiltins x = some (.builtin id)) (ha : PD Xf K m a .s f m1) (hb : PD Xf K m1 b .s g m2) (hg : ∀ i, Gl (Xf i) x := by intro _; rfl)
    (hn : x ≠ "__name__" := by decide) (hdb : (x == ("__debug__" : Str)) = false := by decide) (he : ∀ i, starEach [a, b] (Xf i).env = (false, eval a (Xf i).env) :: starEach [b] (Xf i).env := by intro _; rfl) (he2 : ∀ i, starEach [b] (Xf i).env = (false, eval b (Xf i).env) :: starEach [] (Xf i).env := by intro _; rfl) (hpl : ∀ i, (backTo pos (starEach [b] (Xf i).env)).any (·.1) = false := by intro _; rfl) :
    PD Xf K m (.Call (.Name x p) [a, b] [] pos) ty (e2 gg f g) m2 := by
  obtain ⟨r, hr, dr⟩ := hc.ex
  obtain ⟨ta, pa, da⟩ := ha.ex
  obtain ⟨tb, pb, db⟩ := hb.ex
  exact ⟨_, fun i => pe_callB (hr i) (hg i) (by rw [F.mg_ i]; exact hm) hv (pa_cons (pa i) (pa_cons (pb i) pa_nil (he2 i)) (he i)) hn hdb (he i) (hpl i), DE.bin da db dr⟩
theorem kkC {r : PySem.W.Frag → List V → Hp → VK → Prop} {f : Value} (h : ∀ X : Cx, CallR X f (r X.K)) (i : ι) : CallR (Xf i) f (r K) := by
  have := h (Xf i)
  rw [F.kk i] at this
  exact this
theorem clLen : Cl1 Xf K (.builtin "len") .s gLen := by
  refine ⟨_, fun i => CallR.or (kkC (r := fun K xs H Q => ∃ p ys, xs = [.ref p] ∧ (SqL K H p ys ∨ SqT K H p ys) ∧ Q (.int ys.length) H) (fun X => call_len_seq) i) call_len_str, fun {m G H σ e A x dx d Q} st hx ee k => ?_⟩
  cases dx with
  | list ds =>
    cases ee
    obtain ⟨a, xs, rfl, r1, z1, q1⟩ := dq_lst hx
    exact .inl ⟨a, xs, rfl, .inl (.inl (same_rd st.sub r1)), by rw [q1.1]; exact ans_s st (.int _) k⟩
  | tuple ds =>
    cases ee
    obtain ⟨a, xs, rfl, r1, z1, q1⟩ := dq_tup hx
    exact .inl ⟨a, xs, rfl, .inr (same_seqT st.sub r1), by rw [q1.1]; exact ans_s st (.int _) k⟩
  | str z =>
    cases ee
    obtain ⟨rfl, z1⟩ := dq_str hx
    exact .inr ⟨_, rfl, z1, ans_s st (.int _) k⟩
  | _ => cases ee
theorem clTuple : Cl1 Xf K (.type "tuple") .s gTuple := by
  refine ⟨_, fun i => kkC (r := fun K xs H Q => ∃ p ys, xs = [.ref p] ∧ ((SqL K H p ys ∧ NewT H ys Q) ∨ (SqT K H p ys ∧ Q (.ref p) H))) (fun X => call_tuple_ofN) i, fun {m G H σ e A x dx d Q} st hx ee k => ?_⟩
  cases dx with
  | list ds =>
    cases ee
    obtain ⟨a, xs, rfl, r1, z1, q1⟩ := dq_lst hx
    exact ⟨a, xs, rfl, .inl ⟨.inl (same_rd st.sub r1), ans_tup st q1 z1 k⟩⟩
  | tuple ds =>
    cases ee
    obtain ⟨a, xs, rfl, r1, z1, q1⟩ := dq_tup hx
    exact ⟨a, xs, rfl, .inr ⟨same_seqT st.sub r1, ans_s st hx k⟩⟩
  | _ => cases ee
theorem clList : Cl1 Xf K (.type "list") (.l .s) gList := by
  refine ⟨_, fun i => kkC (r := fun K xs H Q => ∃ p ys, xs = [.ref p] ∧ (SqL K H p ys ∨ SqT K H p ys) ∧ ∀ l, H l = none → Q (.ref l) (upd H l (.lst ys))) (fun X => call_list_of) i, fun {m G H σ e A x dx d Q} st hx ee k => ?_⟩
  cases dx with
  | list ds =>
    cases ee
    obtain ⟨a, xs, rfl, r1, z1, q1⟩ := dq_lst hx
    exact ⟨a, xs, rfl, .inl (.inl (same_rd st.sub r1)), ans_lst st q1 z1 k⟩
  | tuple ds =>
    cases ee
    obtain ⟨a, xs, rfl, r1, z1, q1⟩ := dq_tup hx
    exact ⟨a, xs, rfl, .inr (same_seqT st.sub r1), ans_lst st q1 z1 k⟩
  | _ => cases ee
/-- one of the items comes back -/
def rItem (K : PySem.W.Frag) (gg : List PyData → Option PyData) : List V → Hp → VK → Prop := fun vs H Q => ∃ a xs ds d, vs = [.ref a] ∧ (SqL K H a xs ∨ SqT K H a xs) ∧ DqA K H xs ds ∧ gg ds = some d ∧ ∀ (i : Nat) v, xs[i]? = some v → ds[i]? = some d → Q v H
def gMaxL : List PyData → Option PyData
  | x :: xs => if likeOk (x :: xs) = true then some (PySem.W.maxD x xs) else none
  | [] => none
def gMinL : List PyData → Option PyData
  | x :: xs => if likeOk (x :: xs) = true then some (PySem.W.minD x xs) else none
  | [] => none
omit F in
theorem d1Item {gg : List PyData → Option PyData} {g' : PyData → Option PyData} (h : ∀ x d, g' x = some d → ∃ ds, (x = .list ds ∨ x = .tuple ds) ∧ gg ds = some d) : D1 K (fun x => rItem K gg [x]) .s g' := fun {m G H σ e A x dx d Q} st hx ee k => by
  obtain ⟨ds, hds, e1⟩ := h _ _ ee
  rcases hds with rfl | rfl
  · obtain ⟨a, xs, rfl, r1, z1, q1⟩ := dq_lst hx
    exact ⟨a, xs, ds, d, rfl, .inl (.inl (same_rd st.sub r1)), q1.mono st.sub, e1, fun i v h1 h2 => ans_s st (q1.2 i v d h1 h2) k⟩
  · obtain ⟨a, xs, rfl, r1, z1, q1⟩ := dq_tup hx
    exact ⟨a, xs, ds, d, rfl, .inr (same_seqT st.sub r1), q1.mono st.sub, e1, fun i v h1 h2 => ans_s st (q1.2 i v d h1 h2) k⟩
theorem item_back {i : ι} {pins : List (Addr × Obj)} {σ : St} {H : Hp} {s : Shared} {Q : VK} (I : L2.Inv (Xf i) pins σ H s) {xs : List V} {ds : List PyData} (q : DqA (Xf i).K H xs ds) (hpl : PyData.plainAll ds = true) {its : List Value} (rv : Vals xs its) {d : PyData}
    (hq : ∀ (i : Nat) v, xs[i]? = some v → ds[i]? = some d → Q v H) {j : Nat} {v : Value} {h' : Heap} {tk : Nat} {bs : List Addr} (hv : its.toArray[j]? = some v) (r : Reads h' v d bs) (hk : ∀ b o, s.heap.get? b = some o → h'.get? b = some o) : EP (Xf i) pins σ Q v { s with heap := h', toks := tk } := by
  obtain ⟨x, d', as, h1, h2, rr, qq, rd⟩ := dqA_at I q rv (by simpa using hv)
  obtain rfl := reads_same (plain_mem hpl (List.mem_of_getElem? h2)) (PyProof.Rows.Reads.keeps hk rd) r
  exact ⟨x, H, I.kept hk, rr, hq j x h1 h2⟩
theorem clMax [FG : FamG Xf] : Cl1 Xf K (.builtin "max") .s gMax := by
  refine ⟨rItem K gMaxL, fun i => ?_, d1Item fun x d e => ?_⟩
  · intro pins s σ H vs us Q I r h
    obtain ⟨a, xs, ds, d, rfl, hs, q, e, hq⟩ := h
    rw [← F.kk i] at hs q
    rw [Vals.ref1 r]
    cases ds with
    | nil => cases e
    | cons y ys =>
      obtain ⟨hl, rfl⟩ := ite_some e
      obtain ⟨al, dp, pl⟩ := like_ok hl
      have hu : (Xf i).A.units + 1 + PyData.depthAll (y :: ys) < cLine := hu60 (F.room i) dp
      rcases hs with hs | hs
      · obtain ⟨its, rv, hL, _⟩ := I.list hs
        obtain ⟨as, hr⟩ := q.reads I rv
        exact PySem.W.max_list_data (I.ok.hd (FG.calm i)) hL.isList hr al hu fun j v h' tk bs hv rd hk => item_back I q pl rv hq hv rd hk
      · obtain ⟨its, rv, hL, _⟩ := I.tuple hs
        obtain ⟨as, hr⟩ := q.reads I rv
        exact PySem.W.max_tuple_data (I.ok.hd (FG.calm i)) hL hr al hu fun j v h' tk bs hv rd hk => item_back I q pl rv hq hv rd hk
  · unfold gMax at e
    split at e
    · exact ⟨_, .inl rfl, e⟩
    · exact ⟨_, .inr rfl, e⟩
    · cases e
theorem clMin [FG : FamG Xf] : Cl1 Xf K (.builtin "min") .s gMin := by
  refine ⟨rItem K gMinL, fun i => ?_, d1Item fun x d e => ?_⟩
  · intro pins s σ H vs us Q I r h
    obtain ⟨a, xs, ds, d, rfl, hs, q, e, hq⟩ := h
    rw [← F.kk i] at hs q
    rw [Vals.ref1 r]
    cases ds with
    | nil => cases e
    | cons y ys =>
      obtain ⟨hl, rfl⟩ := ite_some e
      obtain ⟨al, dp, pl⟩ := like_ok hl
      have hu : (Xf i).A.units + 1 + PyData.depthAll (y :: ys) < cLine := hu60 (F.room i) dp
      rcases hs with hs | hs
      · obtain ⟨its, rv, hL, _⟩ := I.list hs
        obtain ⟨as, hr⟩ := q.reads I rv
        exact PySem.W.min_list_data (I.ok.hd (FG.calm i)) hL.isList hr al hu fun j v h' tk bs hv rd hk => item_back I q pl rv hq hv rd hk
      · obtain ⟨its, rv, hL, _⟩ := I.tuple hs
        obtain ⟨as, hr⟩ := q.reads I rv
        exact PySem.W.min_tuple_data (I.ok.hd (FG.calm i)) hL hr al hu fun j v h' tk bs hv rd hk => item_back I q pl rv hq hv rd hk
  · unfold gMin at e
    split at e
    · exact ⟨_, .inl rfl, e⟩
    · exact ⟨_, .inr rfl, e⟩
    · cases e
/-- a scalar comes back, whatever the sequence -/
def rSeqS (K : PySem.W.Frag) (gg : PyData → Option PyData) : List V → Hp → VK → Prop := fun vs H Q => ∃ x dx d v, vs = [x] ∧ Dq K H x dx ∧ gg dx = some d ∧ scV d = some v ∧ Q v H
omit F in
theorem d1SeqS {gg : PyData → Option PyData} (hg : ∀ a d, gg a = some d → ∃ v, scV d = some v) : D1 K (fun x => rSeqS K gg [x]) .s gg := fun {m G H σ e A x dx d Q} st hx ee k => by
  obtain ⟨v, hv⟩ := hg _ _ ee
  exact ⟨x, dx, d, v, rfl, hx.mono st.sub, ee, hv, ans_s st (scV_dq hv) k⟩
omit F in
theorem fits_all {G : Hp} {xs : List V} {ds : List PyData} (q : DqA K G xs ds) : ∀ x ∈ ds, x.fits63 := fun x hx => fits_of (dq_mem q hx).choose_spec
theorem clAll [FG : FamG Xf] : Cl1 Xf K (.builtin "all") .s gAll := by
  refine ⟨rSeqS K gAll, fun i => ?_, d1SeqS fun a d e => ?_⟩
  · intro pins s σ H vs us Q I r h
    obtain ⟨x, dx, d, z, rfl, hx, e, hz, q⟩ := h
    rw [← F.kk i] at hx
    cases dx with
    | list ds =>
      obtain ⟨pl, rfl⟩ := ite_some e
      obtain ⟨a, xs, rfl, r1, z1, q1⟩ := dq_lst hx
      rw [Vals.ref1 r]
      obtain ⟨its, rv, hL, _⟩ := I.list (.inl r1)
      obtain ⟨as, hr⟩ := q1.reads I rv
      exact PySem.W.all_list_data (I.ok.hd (FG.calm i)) hL.isList hr pl (fits_all q1) fun h' tk hk => boolE (I.kept hk) hz q
    | tuple ds =>
      obtain ⟨pl, rfl⟩ := ite_some e
      obtain ⟨a, xs, rfl, r1, z1, q1⟩ := dq_tup hx
      rw [Vals.ref1 r]
      obtain ⟨its, rv, hL, _⟩ := I.tuple r1
      obtain ⟨as, hr⟩ := q1.reads I rv
      exact PySem.W.all_tuple_data (I.ok.hd (FG.calm i)) hL hr pl (fits_all q1) fun h' tk hk => boolE (I.kept hk) hz q
    | _ => cases e
  · unfold gAll at e; split at e <;> first | (obtain ⟨_, rfl⟩ := ite_some e; exact ⟨_, rfl⟩) | cases e
omit F in
theorem ints_eq : ∀ {xs : List PyData} {ns : List Int}, intsOf xs = some ns → xs = ns.map .int
  | [], ns, h => by cases h; rfl
  | .int i :: r, ns, h => by
    obtain ⟨ms, h1, rfl⟩ := Option.map_eq_some_iff.mp (show (intsOf r).map (i :: ·) = some ns from h)
    rw [ints_eq h1]; rfl
omit F in
theorem dqA_ints {G : Hp} : ∀ {vs : List V} {ns : List Int}, DqA K G vs (ns.map .int) → vs = ns.map .int
  | [], [], _ => rfl
  | v :: vs, n :: ns, q => by
    have h := q.head
    rw [dq_int h, dqA_ints q.tail]; rfl
  | [], _ :: _, q => by have := q.1; simp at this
  | _ :: _, [], q => by have := q.1; simp at this
theorem clAbs : Cl1 Xf K (.builtin "abs") .s gAbs := ⟨_, fun i => call_abs, fun {m G H σ e A x dx d Q} st hx ee k => by
  cases dx with
  | int i =>
    cases ee
    obtain rfl := dq_int hx
    exact ⟨i, rfl, ans_s st (.int _) k⟩
  | _ => cases ee⟩
theorem clInt : Cl1 Xf K (.type "int") .s gInt := ⟨_, fun i => call_int1, fun {m G H σ e A x dx d Q} st hx ee k => by
  cases dx with
  | int i =>
    cases ee
    obtain rfl := dq_int hx
    exact .inl ⟨i, rfl, ans_s st (.int _) k⟩
  | bool b =>
    cases ee
    obtain rfl := dq_bool hx
    exact .inr ⟨b, rfl, ans_s st (.int _) k⟩
  | _ => cases ee⟩
theorem clMax2 [FG : FamG Xf] : Cl2 Xf K (.builtin "max") .s gMax2 := ⟨_, fun i => call_max2 (FG.calm i), fun {m G H σ e A x y dx dy d Q} st hx hy ee k => by
  unfold gMax2 at ee
  split at ee
  · cases ee
    obtain rfl := dq_int hx
    obtain rfl := dq_int hy
    exact ⟨_, _, rfl, ans_s st (.int _) k⟩
  · cases ee⟩
end
end DL

namespace DL
open PySem L2 PySem.Spec

theorem bt_enumerate : bootBuiltins "enumerate" = some (.type "enumerate") := by decide +kernel
/-! ### enumerate over a tuple (or a list): the library's draws under this layer's walk -/
set_option maxHeartbeats 8000000 in
theorem meets_enum1 {v : Value} {o : Obj} {H : Heap → Prop} (B : Begins v o H) :
    Meets (Builtin.«enumerate.__new__» ⟨[.type "enumerate", v], []⟩) (fun _ R s => H s.heap ∧
      R (.ok (.ret (.ref (s.heap.push o).objs.size))) { s with heap := (s.heap.push o).push { cls := .type "enumerate", data := .fields #[.none, .bool false, .ref s.heap.objs.size, rawInt 0, .none, .none] } }) :=
  .of_wp fun prog w A R s hh => by
    obtain ⟨hp, g, d, tk, os⟩ := s
    obtain ⟨hb, hr⟩ := hh
    have sube := sub_enumerate
    have beg : ∀ {A' : Around} {E : Value → Shared → Prop} {Q : Value → Shared → Prop}, Q (.ref hp.objs.size) ⟨hp.push o, g, d, tk, os⟩ → wpAny (model prog w) A' (pyIter v) Q E ⟨hp, g, d, tk, os⟩ :=
      fun q => B.iter prog w _ _ _ _ hb q
    wp_walk using beg
    refine wpAny_stack_any fun stk => wpAny_pure ?_
    split
    · rename_i cl _ _ _ _ _
      cases (cl == Value.type "enumerate") <;> (wp_walk using beg; exact ⟨_, rfl, hr⟩)
    · wp_walk using beg
      exact ⟨_, rfl, hr⟩
theorem call_enum1 {prog : Program} {w : World} {A : Around} {E : Value → Shared → Prop} {s : Shared} {v : Value} {o : Obj} {H : Heap → Prop} {Q : Value → Shared → Prop} (B : Begins v o H) (hb : H s.heap)
    (k : ∀ h', IsEnum h' (s.heap.objs.size + 1) s.heap.objs.size 0 .none → h'.get? s.heap.objs.size = some o → (∀ b u, s.heap.get? b = some u → h'.get? b = some u) → Q (.ref (s.heap.objs.size + 1)) { s with heap := h' }) :
    wpAny (model prog w) A (call (.type "enumerate") [v]) Q E s := by
  refine callType_new PySem.F.called_enumerate (by decide) (PySem.F.typeCall_enumerate_1 _) (PySem.F.newCall_enumerate_1 _) (fun obj => PySem.F.args_object_init_2 obj _) PySem.F.entry_enumerate_new (meets_enum1 B) ⟨hb, ?_⟩
  have sz : (s.heap.push o).objs.size = s.heap.objs.size + 1 := Heap.size_push ..
  have at1 : IsEnum ((s.heap.push o).push { cls := .type "enumerate", data := .fields #[.none, .bool false, .ref s.heap.objs.size, rawInt 0, .none, .none] }) (s.heap.push o).objs.size s.heap.objs.size 0 .none := Heap.get?_push_size _ rfl
  show _ ∧ _
  rw [sz] at at1 ⊢
  exact ⟨⟨_, at1, rfl⟩, k _ at1 (Heap.get?_push_of_some _ (Heap.get?_push_size _ B.free)) fun b u q => Heap.get?_push_of_some _ (Heap.get?_push_of_some _ q)⟩

/-- the tuple at a as it stands at each turn, each item in a new pair -/
def IteT (K : PySem.W.Frag) (a : Addr) : It where
  go i H := ∃ (xs : List V) (x : V), SqT K H a xs ∧ xs[i]? = some x
  yld i H v H' := ∃ (T : Addr) (x : V), v = .ref T ∧ H T = none ∧ H' = upd H T (.tup [.int (i : Nat), x]) ∧ ∀ xs, SqT K H a xs → xs[i]? = some x
  stop i H := ∃ xs : List V, SqT K H a xs ∧ xs.length = i
theorem turn_enumT {P : Program} {w : World} {K : PySem.W.Frag} {elts : List Expr} {kk : Nat} {tpos : Pos} (a e it : Addr) :
    Turn P w K (.Tuple elts kk tpos) (IteT K a) [e, it] e (fun i h => (∃ old, IsEnum h e it ((i : Nat) : Int) old) ∧ h.IsTupleIter it a i ∧ e ≠ it) where
  mem := List.mem_cons_self ..
  obj i h st b hb := by
    rcases List.mem_cons.mp hb with rfl | hb
    · obtain ⟨old, he⟩ := st.1
      exact ⟨_, he, fun _ z => nomatch z⟩
    · obtain rfl := List.mem_singleton.mp hb
      obtain ⟨o, ho, _, hd⟩ := st.2.1
      exact ⟨o, ho, fun _ z => by rw [hd] at z; cases z⟩
  keep i h h' st k := ⟨st.1.imp fun old he => k e (List.mem_cons_self ..) _ he, st.2.1.at fun o z => k it (List.mem_cons_of_mem _ (List.mem_singleton.mpr rfl)) o z, st.2.2⟩
  item := by
    rintro X rfl rfl rfl calm i pins s σ H E I own ⟨⟨old, he⟩, hit, ne⟩ ⟨xs, x, hq, hx⟩
    obtain ⟨its, rv, tp, _⟩ := I.tuple hq
    obtain ⟨u, hu, ru⟩ := rv.get hx
    have le := Heap.lt_size he
    have li : it < s.heap.objs.size := hit.elim fun o z => Heap.lt_size z.1
    have lt : i < its.toArray.size := by simpa using (List.getElem?_eq_some_iff.mp hu).1
    have ta : a ≠ it := fun z => by
      obtain ⟨o, ho, hc, _⟩ := hit
      obtain ⟨o', ho', hc', _⟩ := tp
      rw [z, ho] at ho'; cases ho'
      rw [hc] at hc'; exact absurd (Value.type.inj hc') (by decide)
    have ea : e ≠ a := fun z => by
      obtain ⟨o', ho', hc', _⟩ := tp
      rw [← z, he] at ho'; cases ho'
      exact absurd (Value.type.inj hc') (by decide)
    have hefp : e ∉ [it, a] := fun z => by
      rcases List.mem_cons.mp z with z | z
      · exact ne z
      · exact ea (List.mem_singleton.mp z)
    refine wpAny_pyNext_enum_itemC (Draws.tuple (A := X.A.in1) (I.ok.hd calm) it a ta its.toArray) he ⟨hit, tp⟩ lt ne hefp fun y h1 tk hy out st1 hT sz kept => ?_
    have hyu : y = u := by
      have : its.toArray[i]? = some u := by simpa using hu
      rw [this] at hy; exact (Option.some.inj hy).symm
    subst hyu
    refine ⟨_, rfl, wpAny_letOwnedTupleGo_enum (s := { s with heap := h1, toks := tk + 1 }) out fun h2 he2 same => ?_⟩
    have T2 : h2.get? s.heap.objs.size = some { cls := .type "tuple", data := .seq #[.int i tk, y] } := (same.2 _ (Nat.ne_of_gt le)).trans hT
    have okT : ObjOk X.prog X.w (upd H s.heap.objs.size (.tup [.int (i : Nat), x])) h2 s.heap.objs.size (.tup [.int (i : Nat), x]) :=
      ⟨by show 2 ≤ sizeLine; decide, [.int i tk, y], .cons ⟨tk, rfl⟩ (.cons ru .nil), ⟨_, T2, rfl, _, rfl⟩⟩
    have J := I.turnedNew (t' := tk + 1) (ch := [e, it]) (h' := h2) (fun b ob hb q => (same.2 b fun z => hb (by rw [z]; exact List.mem_cons_self ..)).trans (kept b ob (fun z => hb (by rw [z]; exact List.mem_cons_self ..)) (fun z => hb (by rw [z]; exact List.mem_cons_of_mem _ (List.mem_singleton.mpr rfl))) q)) own (Nat.le_refl _) okT
    refine ⟨.ref s.heap.objs.size, _, J, rfl, ⟨_, x, rfl, I.hok.fresh (Nat.le_refl _), rfl, fun ys hy' => by rw [I.tuple_inj hy' hq]; exact hx⟩, ⟨⟨y, by rw [show ((i + 1 : Nat) : Int) = (i : Int) + 1 by omega]; exact he2⟩, st1.1.at fun o q => (same.2 it (Ne.symm ne)).trans q, ne⟩, fun b hb => ?_⟩
    have lb : b < s.heap.objs.size := by
      rcases List.mem_cons.mp hb with z | z
      · rw [z]; exact le
      · rw [List.mem_singleton.mp z]; exact li
    rw [upd_ne (Nat.ne_of_lt lb)]
    exact (own b hb).1
  done := by
    rintro X rfl rfl rfl calm i pins s σ H E I own ⟨⟨old, he⟩, hit, ne⟩ ⟨xs, hq, hx⟩
    obtain ⟨its, rv, tp, _⟩ := I.tuple hq
    have ta : a ≠ it := fun z => by
      obtain ⟨o, ho, hc, _⟩ := hit
      obtain ⟨o', ho', hc', _⟩ := tp
      rw [z, ho] at ho'; cases ho'
      rw [hc] at hc'; exact absurd (Value.type.inj hc') (by decide)
    obtain ⟨f0, f1, f2, f3, f4, f5⟩ := own it (List.mem_cons_of_mem _ (List.mem_singleton.mpr rfl))
    have hz : its.toArray.size = i := by have := rv.length; simp; omega
    subst hz
    exact wpAny_pyNext_enum_endD (Draws.tuple (A := X.A.in1) (I.ok.hd calm) it a ta its.toArray) he ⟨hit, tp⟩ fun h' eb => ⟨rfl, I.turned (t' := s.toks) (fun b o hb q => eb b o hb q) f0 f1 f3 f4 f5⟩
  self A i s Q E st q := st.1.elim fun old he => wpAny_pyIter_enum he q
end DL

namespace DL
open PySem L2 PySem.Spec

theorem pi_enumT {X : Cx} {e : Expr} {ta : TA} {p pos tpos : Pos} {elts : List Expr} {kk : Nat} (hg : Gl X "enumerate") (hm : X.mg "enumerate" = none) (ha : PA X [e] ta) (hs : starEach [e] X.env = [(false, eval e X.env)] := by rfl) :
    PI X (.Tuple elts kk tpos) (.Call (.Name "enumerate" p) [e] [] pos) (fun σ H R => ta σ H fun vs H1 => ∃ a xs, vs = [.ref a] ∧ SqT X.K H1 a xs ∧ R (IteT X.K a) H1) := by
  refine ⟨fun pins s σ H R I h => PyProof.Rows.Call_ (ld_blt I hg hm bt_enumerate (PyProof.Rows.callWith_type1 (thn (ha.run pos pins s σ H _ I h) ?_) hs rfl))⟩
  rintro us s1 ⟨vs, H1, I1, r1, a, xs, rfl, hq, q⟩
  rw [Vals.ref1 r1]
  obtain ⟨its, rv, tp, hz⟩ := I1.tuple hq
  refine call_enum1 (begins_tuple a its.toArray) tp fun h' he hit hk => wpAny_pyIter_enum he ?_
  refine ⟨s1.heap.objs.size + 1, [s1.heap.objs.size + 1, s1.heap.objs.size], _, _, H1, rfl, I1.kept (t' := s1.toks) hk, turn_enumT a _ s1.heap.objs.size, ⟨⟨.none, he⟩, ⟨_, hit, rfl, rfl⟩, Nat.succ_ne_self _⟩, fun b hb => ?_, q⟩
  have le : s1.heap.objs.size ≤ b := by
    rcases List.mem_cons.mp hb with z | z
    · rw [z]; exact Nat.le_succ _
    · rw [List.mem_singleton.mp z]; exact Nat.le_refl _
  exact I1.fpOk le (I1.hok.fresh le)
theorem PI.or {X : Cx} {tg iter : Expr} {w1 w2 : TI} (h1 : PI X tg iter w1) (h2 : PI X tg iter w2) : PI X tg iter (fun σ H R => w1 σ H R ∨ w2 σ H R) :=
  ⟨fun pins s σ H R I h => h.elim (h1.run pins s σ H R I) (h2.run pins s σ H R I)⟩

/-! ### walks that give stable data -/
/-- stable data, or (when wk) a pair just made -/
def DqW (wk : Bool) (K : PySem.W.Frag) (G : Hp) (x : V) (d : PyData) : Prop := Dq K G x d ∨ (wk = true ∧ ∃ (a : Addr) (xs : List V) (ds : List PyData), x = .ref a ∧ d = .tuple ds ∧ SqT K G a xs ∧ DqA K G xs ds)
theorem DqW.strong {K : PySem.W.Frag} {G : Hp} {x : V} {d : PyData} (h : DqW false K G x d) : Dq K G x d := by
  rcases h with h | ⟨h, _⟩
  · exact h
  · cases h
theorem dqW_tup {wk : Bool} {K : PySem.W.Frag} {G : Hp} {x : V} {ds : List PyData} (h : DqW wk K G x (.tuple ds)) : ∃ a xs, x = .ref a ∧ SqT K G a xs ∧ DqA K G xs ds := by
  rcases h with h | ⟨_, a, xs, ds', h1, h2, h3, h4⟩
  · obtain ⟨a, xs, h1, h2, _, h3⟩ := dq_tup h
    exact ⟨a, xs, h1, h2, h3⟩
  · cases h2
    exact ⟨a, xs, h1, h3, h4⟩
structure WalkS (K : PySem.W.Frag) (G0 : Hp) (J : It) (ds : List PyData) : Prop where
  goes : ∀ i H, i < ds.length → Same G0 H → J.go i H
  stops : ∀ H, Same G0 H → J.stop ds.length H
  yields : ∀ {i : Nat} {H : Hp} {x : V} {H' : Hp} {m : List Ty} {G : Hp} {σ : St} {e : En} {A : List Addr}, i < ds.length → Same G0 G → Stt K m G H σ e A → J.yld i H x H' →
    ∃ G', Step A G H A G' H' ∧ Stt K m G' H' σ e A ∧ Same G G' ∧ ∀ d, ds[i]? = some d → Dq K G' x d
structure WalkD (K : PySem.W.Frag) (wk : Bool) (G0 : Hp) (J : It) (ds : List PyData) : Prop where
  goes : ∀ i H, i < ds.length → Same G0 H → J.go i H
  stops : ∀ H, Same G0 H → J.stop ds.length H
  yields : ∀ {i : Nat} {H : Hp} {x : V} {H' : Hp} {m : List Ty} {G : Hp} {σ : St} {e : En} {A : List Addr}, i < ds.length → Same G0 G → Stt K m G H σ e A → J.yld i H x H' →
    ∃ G', Step A G H A G' H' ∧ Stt K m G' H' σ e A ∧ Same G G' ∧ ∀ d, ds[i]? = some d → DqW wk K G' x d
theorem WalkS.d {wk : Bool} {K : PySem.W.Frag} {G0 : Hp} {J : It} {ds : List PyData} (h : WalkS K G0 J ds) : WalkD K wk G0 J ds :=
  ⟨h.goes, h.stops, fun hi s st y => by
    obtain ⟨G2, s2, st2, sg, k⟩ := h.yields hi s st y
    exact ⟨G2, s2, st2, sg, fun d hd => .inl (k d hd)⟩⟩
def DI (K : PySem.W.Frag) (wk : Bool) (m : List Ty) (wi : TI) (f : Lf) (m' : List Ty) : Prop :=
  ∀ {G H : Hp} {σ : St} {e : En} {A : List Addr} {ds : List PyData} {e' : En} {R : It → Hp → Prop}, Stt K m G H σ e A → f e = some (ds, e') →
    (∀ (G' H' : Hp) (A' : List Addr) (J : It), Step A G H A' G' H' → Stt K m' G' H' σ e' A' → WalkD K wk G' J ds → ds.length ≤ sizeLine → R J H') → wi σ H R
structure PIt {ι : Type} (Xf : ι → Cx) (K : PySem.W.Frag) (wk : Bool) (m : List Ty) (tg iter : Expr) (f : Lf) (m' : List Ty) : Prop where
  ex : ∃ wi : TI, (∀ i, PI (Xf i) tg iter wi) ∧ DI K wk m wi f m'

section
variable {K : PySem.W.Frag} {G H : Hp} {m : List Ty} {σ : St} {e : En} {A : List Addr}
theorem walkD_list {a : Addr} {xs : List V} {ds : List PyData} (hr : Rd G a (.lst xs)) (q : DqA K G xs ds) : WalkS K G (Itl K a) ds := by
  have l := q.1
  refine ⟨fun i H hi s => ⟨xs, xs[i]'(by omega), .inl (same_rd s hr), List.getElem?_eq_getElem (by omega)⟩, fun H s => ⟨xs, .inl (same_rd s hr), by omega⟩, fun {i H x H' m G' σ e A} hi s st y => ?_⟩
  obtain ⟨rfl, y⟩ := y
  refine ⟨G', Step.refl, st, Same.refl _, fun d hd => ?_⟩
  have hx := y xs (.inl (same_rd (s.trans st.sub) hr))
  exact (q.2 i x d hx hd).mono s
theorem walkD_tup {a : Addr} {xs : List V} {ds : List PyData} (hr : SqT K G a xs) (q : DqA K G xs ds) : WalkS K G (Itt K a) ds := by
  have l := q.1
  refine ⟨fun i H hi s => ⟨xs, xs[i]'(by omega), same_seqT s hr, List.getElem?_eq_getElem (by omega)⟩, fun H s => ⟨xs, same_seqT s hr, by omega⟩, fun {i H x H' m G' σ e A} hi s st y => ?_⟩
  obtain ⟨rfl, y⟩ := y
  refine ⟨G', Step.refl, st, Same.refl _, fun d hd => ?_⟩
  have hx := y xs (same_seqT (s.trans st.sub) hr)
  exact (q.2 i x d hx hd).mono s
def rngD (lo : Int) (n : Nat) : List PyData := (List.range n).map fun i => .int (lo + (i : Nat))
theorem rngD_len (lo : Int) (n : Nat) : (rngD lo n).length = n := by simp [rngD]
theorem walkD_range {lo : Int} {n : Nat} : WalkS K G (Itr lo n) (rngD lo n) := by
  refine ⟨fun i H hi _ => by rw [rngD_len] at hi; exact hi, fun H _ => by rw [rngD_len]; exact Nat.le_refl n, fun {i H x H' m G' σ e A} hi s st y => ?_⟩
  obtain ⟨rfl, rfl⟩ := y
  refine ⟨G', Step.refl, st, Same.refl _, fun d hd => ?_⟩
  rw [rngD_len] at hi
  unfold rngD at hd
  rw [List.getElem?_map, List.getElem?_range hi] at hd
  cases hd
  exact .int _
def enumD : Nat → List PyData → List PyData
  | _, [] => []
  | k, d :: r => .tuple [.int (k : Nat), d] :: enumD (k + 1) r
theorem enumD_len : ∀ (k : Nat) (ds : List PyData), (enumD k ds).length = ds.length
  | _, [] => rfl
  | k, d :: r => by simp [enumD, enumD_len (k + 1) r]
theorem enumD_get : ∀ (k : Nat) (ds : List PyData) (i : Nat) (d : PyData), (enumD k ds)[i]? = some d → ∃ d0, ds[i]? = some d0 ∧ d = .tuple [.int ((k + i : Nat) : Int), d0]
  | _, [], i, d, h => by simp [enumD] at h
  | k, d0 :: r, 0, d, h => by simp [enumD] at h; exact ⟨d0, rfl, by simpa using h.symm⟩
  | k, d0 :: r, i + 1, d, h => by
    obtain ⟨d1, h1, h2⟩ := enumD_get (k + 1) r i d (by simpa [enumD] using h)
    exact ⟨d1, by simpa using h1, by rw [h2]; congr 3; omega⟩
/-- a new stable pair -/
theorem pair_new {p : Addr} {x y : V} {dx dy : PyData} (st : Stt K m G H σ e A) (hp : H p = none) (hx : Dq K G x dx) (hy : Dq K G y dy) :
    ∃ G', Step A G H A G' (upd H p (.tup [x, y])) ∧ Stt K m G' (upd H p (.tup [x, y])) σ e A ∧ Same G G' ∧ DqW true K G' (.ref p) (.tuple [dx, dy]) := by
  obtain ⟨s1, st1, sg⟩ := new_s (o := .tup [x, y]) st hp
  have q : DqA K (upd G p (.tup [x, y])) [x, y] [dx, dy] := (hx.mono sg |> fun a => DqA.cons a (DqA.cons (hy.mono sg) DqA.nil))
  exact ⟨_, s1, st1, sg, .inr ⟨rfl, p, _, _, rfl, rfl, SqT.of upd_same, q⟩⟩
theorem walkD_enumL {a : Addr} {xs : List V} {ds : List PyData} (hr : Rd G a (.lst xs)) (q : DqA K G xs ds) : WalkD K true G (Ite K a) (enumD 0 ds) := by
  have l := q.1
  refine ⟨fun i H hi s => ?_, fun H s => ⟨xs, .inl (same_rd s hr), by rw [enumD_len]; omega⟩, fun {i H x H' m G' σ e A} hi s st y => ?_⟩
  · rw [enumD_len] at hi
    exact ⟨xs, xs[i]'(by omega), .inl (same_rd s hr), List.getElem?_eq_getElem (by omega)⟩
  · obtain ⟨T, z, rfl, hT, rfl, hz⟩ := y
    rw [enumD_len] at hi
    have hx := hz xs (.inl (same_rd (s.trans st.sub) hr))
    have qz := (q.2 i z _ hx (List.getElem?_eq_getElem hi)).mono s
    obtain ⟨G2, s2, st2, sg2, q2⟩ := pair_new st hT (.int ((i : Nat) : Int)) qz
    refine ⟨G2, s2, st2, sg2, fun d hd => ?_⟩
    obtain ⟨d0, h1, rfl⟩ := enumD_get 0 ds i d hd
    rw [List.getElem?_eq_getElem hi] at h1
    cases h1
    rw [Nat.zero_add]; exact q2
theorem walkD_enumT {a : Addr} {xs : List V} {ds : List PyData} (hr : SqT K G a xs) (q : DqA K G xs ds) : WalkD K true G (IteT K a) (enumD 0 ds) := by
  have l := q.1
  refine ⟨fun i H hi s => ?_, fun H s => ⟨xs, same_seqT s hr, by rw [enumD_len]; omega⟩, fun {i H x H' m G' σ e A} hi s st y => ?_⟩
  · rw [enumD_len] at hi
    exact ⟨xs, xs[i]'(by omega), same_seqT s hr, List.getElem?_eq_getElem (by omega)⟩
  · obtain ⟨T, z, rfl, hT, rfl, hz⟩ := y
    rw [enumD_len] at hi
    have hx := hz xs (same_seqT (s.trans st.sub) hr)
    have qz := (q.2 i z _ hx (List.getElem?_eq_getElem hi)).mono s
    obtain ⟨G2, s2, st2, sg2, q2⟩ := pair_new st hT (.int ((i : Nat) : Int)) qz
    refine ⟨G2, s2, st2, sg2, fun d hd => ?_⟩
    obtain ⟨d0, h1, rfl⟩ := enumD_get 0 ds i d hd
    rw [List.getElem?_eq_getElem hi] at h1
    cases h1
    rw [Nat.zero_add]; exact q2
def zipD : List PyData → List PyData → List PyData
  | a :: as, b :: bs => .tuple [a, b] :: zipD as bs
  | _, _ => []
theorem zipD_len : ∀ (as bs : List PyData), (zipD as bs).length = min as.length bs.length
  | [], _ => by simp [zipD]
  | _ :: _, [] => by simp [zipD]
  | a :: as, b :: bs => by simp [zipD, zipD_len as bs]
theorem zipD_get : ∀ (as bs : List PyData) (i : Nat) (d : PyData), (zipD as bs)[i]? = some d → ∃ x y, as[i]? = some x ∧ bs[i]? = some y ∧ d = .tuple [x, y]
  | [], _, i, d, h => by simp [zipD] at h
  | _ :: _, [], i, d, h => by simp [zipD] at h
  | a :: as, b :: bs, 0, d, h => by simp [zipD] at h; exact ⟨a, b, rfl, rfl, h.symm⟩
  | a :: as, b :: bs, i + 1, d, h => by
    obtain ⟨x, y, h1, h2, h3⟩ := zipD_get as bs i d (by simpa [zipD] using h)
    exact ⟨x, y, by simpa using h1, by simpa using h2, h3⟩
theorem walkD_zipL {a b : Addr} {xs ys : List V} {ds es : List PyData} (hr : Rd G a (.lst xs)) (q : DqA K G xs ds) (hr2 : Rd G b (.lst ys)) (q2 : DqA K G ys es) : WalkD K true G (Itz K a b) (zipD ds es) := by
  have l := q.1
  have l2 := q2.1
  refine ⟨fun i H hi s => ?_, fun H s => ⟨xs, ys, .inl (same_rd s hr), .inl (same_rd s hr2), by rw [zipD_len]; omega⟩, fun {i H x H' m G' σ e A} hi s st y => ?_⟩
  · rw [zipD_len] at hi
    exact ⟨xs, ys, xs[i]'(by omega), ys[i]'(by omega), .inl (same_rd s hr), .inl (same_rd s hr2), List.getElem?_eq_getElem (by omega), List.getElem?_eq_getElem (by omega)⟩
  · obtain ⟨T, z, z2, rfl, hT, rfl, hz, hz2⟩ := y
    have hx := hz xs (.inl (same_rd (s.trans st.sub) hr))
    have hy := hz2 ys (.inl (same_rd (s.trans st.sub) hr2))
    obtain ⟨d, hd⟩ : ∃ d, (zipD ds es)[i]? = some d := ⟨_, List.getElem?_eq_getElem hi⟩
    obtain ⟨dx, dy, h1, h2, rfl⟩ := zipD_get _ _ _ _ hd
    obtain ⟨G2, s2, st2, sg2, q3⟩ := pair_new st hT ((q.2 i z _ hx h1).mono s) ((q2.2 i z2 _ hy h2).mono s)
    exact ⟨G2, s2, st2, sg2, fun d' hd' => by rw [hd] at hd'; cases hd'; exact q3⟩
theorem walkD_zipT {a b : Addr} {xs ys : List V} {ds es : List PyData} (hr : SqT K G a xs) (q : DqA K G xs ds) (hr2 : SqT K G b ys) (q2 : DqA K G ys es) : WalkD K true G (RZ.ItzT K a b) (zipD ds es) := by
  have l := q.1
  have l2 := q2.1
  refine ⟨fun i H hi s => ?_, fun H s => ⟨xs, ys, same_seqT s hr, same_seqT s hr2, by rw [zipD_len]; omega⟩, fun {i H x H' m G' σ e A} hi s st y => ?_⟩
  · rw [zipD_len] at hi
    exact ⟨xs, ys, xs[i]'(by omega), ys[i]'(by omega), same_seqT s hr, same_seqT s hr2, List.getElem?_eq_getElem (by omega), List.getElem?_eq_getElem (by omega)⟩
  · obtain ⟨T, z, z2, rfl, hT, rfl, hz, hz2⟩ := y
    have hx := hz xs (same_seqT (s.trans st.sub) hr)
    have hy := hz2 ys (same_seqT (s.trans st.sub) hr2)
    obtain ⟨d, hd⟩ : ∃ d, (zipD ds es)[i]? = some d := ⟨_, List.getElem?_eq_getElem hi⟩
    obtain ⟨dx, dy, h1, h2, rfl⟩ := zipD_get _ _ _ _ hd
    obtain ⟨G2, s2, st2, sg2, q3⟩ := pair_new st hT ((q.2 i z _ hx h1).mono s) ((q2.2 i z2 _ hy h2).mono s)
    exact ⟨G2, s2, st2, sg2, fun d' hd' => by rw [hd] at hd'; cases hd'; exact q3⟩
end

/-! ### iterables -/
def seqD : PyData → Option (List PyData)
  | .list xs => some xs
  | .tuple xs => some xs
  | _ => none
def iSeq (f : Ef) : Lf := fun e => (f e).bind fun p => (seqD p.1).bind fun ds => some (ds, p.2)
def iEn (f : Ef) : Lf := fun e => (f e).bind fun p => (seqD p.1).bind fun ds => some (enumD 0 ds, p.2)
def zipS : PyData → PyData → Option (List PyData)
  | .list xs, .list ys => some (zipD xs ys)
  | .tuple xs, .tuple ys => some (zipD xs ys)
  | _, _ => none
def iZp (f g : Ef) : Lf := fun e => (f e).bind fun p => (g p.2).bind fun q => (zipS p.1 q.1).bind fun ds => some (ds, q.2)
def rng1 : PyData → Option (List PyData)
  | .int j => if j.toNat ≤ sizeLine ∧ -(2 ^ 62) ≤ j ∧ j < 2 ^ 62 then some (rngD 0 j.toNat) else none
  | _ => none
def rng2 : PyData → PyData → Option (List PyData)
  | .int i, .int j => if (j - i).toNat ≤ sizeLine ∧ -(2 ^ 62) ≤ i ∧ i < 2 ^ 62 ∧ -(2 ^ 62) ≤ j ∧ j < 2 ^ 62 then some (rngD i (j - i).toNat) else none
  | _, _ => none
def iR1 (f : Ef) : Lf := fun e => (f e).bind fun p => (rng1 p.1).bind fun ds => some (ds, p.2)
def iR2 (f g : Ef) : Lf := fun e => (f e).bind fun p => (g p.2).bind fun q => (rng2 p.1 q.1).bind fun ds => some (ds, q.2)

section
variable {ι : Type} {Xf : ι → Cx} {P : Program} {w : World} {K : PySem.W.Frag} {mg : Str → Option Value} {base : Heap} {n : Nat} [F : Fam Xf P w K mg base n]
variable {m m1 m2 m3 : List Ty} {pos p p2 tpos : Pos} {a b c tg : Expr} {elts : List Expr} {kk : Nat} {f g h : Ef}
include F
theorem pi_seq (ha : PD Xf K m a .s f m1) : PIt Xf K false m tg a (iSeq f) m1 := by
  obtain ⟨ta, pa, da⟩ := ha.ex
  refine ⟨_, fun i => PI.or (by have := pi_list (tg := tg) (pa i); rw [F.kk i] at this; exact this) (by have := pi_tup (tg := tg) (pa i); rw [F.kk i] at this; exact this), fun {G H σ e A ds e' R} st hf k => ?_⟩
  unfold iSeq at hf
  obtain ⟨⟨d1, e1⟩, hf1, hf⟩ := Option.bind_eq_some_iff.mp hf
  obtain ⟨ds1, hf2, hf⟩ := Option.bind_eq_some_iff.mp hf
  cases hf
  cases d1 with
  | list xs =>
    cases hf2
    refine .inl (da st hf1 fun G1 H1 v1 A1 B1 s1 st1 o1 nd1 => ?_)
    cases o1 with
    | s q1 =>
      obtain ⟨a, vs, rfl, r1, z1, qq⟩ := dq_lst q1
      exact ⟨a, rfl, ⟨vs, .inl (same_rd st1.sub r1)⟩, k _ _ _ _ s1 st1 (walkD_list r1 qq).d (by rw [← qq.1]; exact z1)⟩
  | tuple xs =>
    cases hf2
    refine .inr (da st hf1 fun G1 H1 v1 A1 B1 s1 st1 o1 nd1 => ?_)
    cases o1 with
    | s q1 =>
      obtain ⟨a, vs, rfl, r1, z1, qq⟩ := dq_tup q1
      exact ⟨a, rfl, ⟨vs, same_seqT st1.sub r1⟩, k _ _ _ _ s1 st1 (walkD_tup r1 qq).d (by rw [← qq.1]; exact z1)⟩
  | _ => cases hf2
theorem pi_r1 (hm : mg "range" = none) (ha : PD Xf K m a .s f m1) (hg : ∀ i, Gl (Xf i) "range" := by intro _; rfl) (hs : ∀ i, starEach [a] (Xf i).env = [(false, eval a (Xf i).env)] := by intro _; rfl) : PIt Xf K false m tg (.Call (.Name "range" p) [a] [] pos) (iR1 f) m1 := by
  obtain ⟨ta, pa, da⟩ := ha.ex
  refine ⟨_, fun i => pi_range1 (hg i) (by rw [F.mg_ i]; exact hm) (pa_cons (pa i) pa_nil (hs i)) (hs i), fun {G H σ e A ds e' R} st hf k => ?_⟩
  unfold iR1 at hf
  obtain ⟨⟨d1, e1⟩, hf1, hf⟩ := Option.bind_eq_some_iff.mp hf
  obtain ⟨ds1, hf2, hf⟩ := Option.bind_eq_some_iff.mp hf
  cases hf
  refine da st hf1 fun G1 H1 v1 A1 B1 s1 st1 o1 nd1 => ?_
  cases o1 with
  | s q1 =>
    cases d1 with
    | int j =>
      obtain ⟨hz, rfl⟩ := ite_some hf2
      replace hz := And.intro hz.2.1 (And.intro hz.2.2 hz.1)
      obtain rfl := dq_int q1
      exact ⟨j, rfl, hz.1, hz.2.1, k _ _ _ _ s1 st1 walkD_range.d (by rw [rngD_len]; exact hz.2.2)⟩
    | _ => cases hf2
theorem pi_r2 (hm : mg "range" = none) (ha : PD Xf K m a .s f m1) (hb : PD Xf K m1 b .s g m2) (hg : ∀ i, Gl (Xf i) "range" := by intro _; rfl) (hs : ∀ i, starEach [a, b] (Xf i).env = [(false, eval a (Xf i).env), (false, eval b (Xf i).env)] := by intro _; rfl) (hs2 : ∀ i, starEach [b] (Xf i).env = [(false, eval b (Xf i).env)] := by intro _; rfl) :
    PIt Xf K false m tg (.Call (.Name "range" p) [a, b] [] pos) (iR2 f g) m2 := by
  obtain ⟨ta, pa, da⟩ := ha.ex
  obtain ⟨tb, pb, db⟩ := hb.ex
  refine ⟨_, fun i => pi_range2 (hg i) (by rw [F.mg_ i]; exact hm) (pa_cons (pa i) (pa_cons (pb i) pa_nil (hs2 i)) (by rw [hs i, hs2 i])) (hs i) (hs2 i), fun {G H σ e A ds e' R} st hf k => ?_⟩
  unfold iR2 at hf
  obtain ⟨⟨d1, e1⟩, hf1, hf⟩ := Option.bind_eq_some_iff.mp hf
  obtain ⟨⟨d2, e2⟩, hf2, hf⟩ := Option.bind_eq_some_iff.mp hf
  obtain ⟨ds1, hf3, hf⟩ := Option.bind_eq_some_iff.mp hf
  cases hf
  refine da st hf1 fun G1 H1 v1 A1 B1 s1 st1 o1 nd1 => ?_
  cases o1 with
  | s q1 =>
    refine db st1 hf2 fun G2 H2 v2 A2 B2 s2 st2 o2 nd2 => ?_
    cases o2 with
    | s q2 =>
      have hf3 : rng2 d1 d2 = some ds := hf3
      unfold rng2 at hf3
      split at hf3
      · obtain ⟨hz, rfl⟩ := ite_some hf3
        replace hz := And.intro hz.2.1 (And.intro hz.2.2.1 (And.intro hz.2.2.2.1 (And.intro hz.2.2.2.2 hz.1)))
        obtain rfl := dq_int q1
        obtain rfl := dq_int q2
        exact ⟨_, _, rfl, ⟨hz.1, hz.2.1, hz.2.2.1, hz.2.2.2.1⟩, k _ _ _ _ (s1.seq0 s2) st2 walkD_range.d (by rw [rngD_len]; exact hz.2.2.2.2)⟩
      · cases hf3
theorem pi_en (hm : mg "enumerate" = none) (ha : PD Xf K m a .s f m1) (hg : ∀ i, Gl (Xf i) "enumerate" := by intro _; rfl) (hs : ∀ i, starEach [a] (Xf i).env = [(false, eval a (Xf i).env)] := by intro _; rfl) : PIt Xf K true m (.Tuple elts kk tpos) (.Call (.Name "enumerate" p) [a] [] pos) (iEn f) m1 := by
  obtain ⟨ta, pa, da⟩ := ha.ex
  refine ⟨_, fun i => PI.or (by have := L2.pi_enum (elts := elts) (kk := kk) (tpos := tpos) (p := p) (pos := pos) (hg i) (by rw [F.mg_ i]; exact hm) (pa_cons (pa i) pa_nil (hs i)) (hs i); rw [F.kk i] at this; exact this)
    (by have := pi_enumT (elts := elts) (kk := kk) (tpos := tpos) (p := p) (pos := pos) (hg i) (by rw [F.mg_ i]; exact hm) (pa_cons (pa i) pa_nil (hs i)) (hs i); rw [F.kk i] at this; exact this), fun {G H σ e A ds e' R} st hf k => ?_⟩
  unfold iEn at hf
  obtain ⟨⟨d1, e1⟩, hf1, hf⟩ := Option.bind_eq_some_iff.mp hf
  obtain ⟨ds1, hf2, hf⟩ := Option.bind_eq_some_iff.mp hf
  cases hf
  cases d1 with
  | list xs =>
    cases hf2
    refine .inl (da st hf1 fun G1 H1 v1 A1 B1 s1 st1 o1 nd1 => ?_)
    cases o1 with
    | s q1 =>
      obtain ⟨a, vs, rfl, r1, z1, qq⟩ := dq_lst q1
      exact ⟨a, vs, rfl, .inl (same_rd st1.sub r1), k _ _ _ _ s1 st1 (walkD_enumL r1 qq) (by rw [enumD_len, ← qq.1]; exact z1)⟩
  | tuple xs =>
    cases hf2
    refine .inr (da st hf1 fun G1 H1 v1 A1 B1 s1 st1 o1 nd1 => ?_)
    cases o1 with
    | s q1 =>
      obtain ⟨a, vs, rfl, r1, z1, qq⟩ := dq_tup q1
      exact ⟨a, vs, rfl, same_seqT st1.sub r1, k _ _ _ _ s1 st1 (walkD_enumT r1 qq) (by rw [enumD_len, ← qq.1]; exact z1)⟩
  | _ => cases hf2
theorem pi_zp (hm : mg "zip" = none) (ha : PD Xf K m a .s f m1) (hb : PD Xf K m1 b .s g m2) (hg : ∀ i, Gl (Xf i) "zip" := by intro _; rfl) (hs : ∀ i, starEach [a, b] (Xf i).env = (false, eval a (Xf i).env) :: starEach [b] (Xf i).env := by intro _; rfl) (hs2 : ∀ i, starEach [b] (Xf i).env = (false, eval b (Xf i).env) :: starEach [] (Xf i).env := by intro _; rfl)
    (hpl : ∀ i, (backTo pos (starEach [b] (Xf i).env)).any (·.1) = false := by intro _; rfl) : PIt Xf K true m (.Tuple elts kk tpos) (.Call (.Name "zip" p) [a, b] [] pos) (iZp f g) m2 := by
  obtain ⟨ta, pa, da⟩ := ha.ex
  obtain ⟨tb, pb, db⟩ := hb.ex
  refine ⟨RZ.iZipA K (tCons ta (tCons tb tNil)), fun i => (by have := RZ.pi_zipA (elts := elts) (kk := kk) (tpos := tpos) (p := p) (pos := pos) (hg i) (by rw [F.mg_ i]; exact hm) (pa_cons (pa i) (pa_cons (pb i) pa_nil (hs2 i)) (hs i)) (hs i) (hpl i); rw [F.kk i] at this; exact this), fun {G H σ e A ds e' R} st hf k => ?_⟩
  unfold iZp at hf
  obtain ⟨⟨d1, e1⟩, hf1, hf⟩ := Option.bind_eq_some_iff.mp hf
  obtain ⟨⟨d2, e2⟩, hf2, hf⟩ := Option.bind_eq_some_iff.mp hf
  obtain ⟨ds1, hf3, hf⟩ := Option.bind_eq_some_iff.mp hf
  cases hf
  refine da st hf1 fun G1 H1 v1 A1 B1 s1 st1 o1 nd1 => ?_
  cases o1 with
  | s q1 =>
    refine db st1 hf2 fun G2 H2 v2 A2 B2 s2 st2 o2 nd2 => ?_
    cases o2 with
    | s q2 =>
      have q1' := q1.mono s2.sg
      have hf3 : zipS d1 d2 = some ds := hf3
      unfold zipS at hf3
      split at hf3
      · cases hf3
        obtain ⟨a, xs, rfl, r1, z1, w1⟩ := dq_lst q1'
        obtain ⟨b, ys, rfl, r2, z2, w2⟩ := dq_lst q2
        refine ⟨a, b, xs, ys, rfl, .inl ⟨.inl (same_rd st2.sub r1), .inl (same_rd st2.sub r2), k _ _ _ _ (s1.seq0 s2) st2 (walkD_zipL r1 w1 r2 w2) ?_⟩⟩
        rw [zipD_len]; have := w1.1; omega
      · cases hf3
        obtain ⟨a, xs, rfl, r1, z1, w1⟩ := dq_tup q1'
        obtain ⟨b, ys, rfl, r2, z2, w2⟩ := dq_tup q2
        refine ⟨a, b, xs, ys, rfl, .inr ⟨same_seqT st2.sub r1, same_seqT st2.sub r2, k _ _ _ _ (s1.seq0 s2) st2 (walkD_zipT r1 w1 r2 w2) ?_⟩⟩
        rw [zipD_len]; have := w1.1; omega
      · cases hf3
end
end DL

namespace DL
open PySem L2 PySem.Spec

/-! ### targets -/
abbrev Gf := PyData → En → Option En
abbrev Gsf := List PyData → En → Option En
def DG (K : PySem.W.Frag) (wk : Bool) (m : List Ty) (g : TG) (sl : List Nat) (gf : Gf) (m' : List Ty) : Prop :=
  ∀ {G H : Hp} {σ : St} {e : En} {A : List Addr} {x : V} {d : PyData} {e' : En} {Q : St → Hp → Prop}, Stt K m G H σ e A → DqW wk K G x d → gf d e = some e' →
    (∀ (G' H' : Hp) (σ' : St) (A' : List Addr), Step A G H A' G' H' → Stt K m' G' H' σ' e' A' → (∀ j, j ∉ sl → σ'[j]? = σ[j]?) → σ'.length = σ.length → Q σ' H') → g x σ H Q
def DGs (K : PySem.W.Frag) (m : List Ty) (g : TGs) (sl : List Nat) (gf : Gsf) (m' : List Ty) : Prop :=
  ∀ {G H : Hp} {σ : St} {e : En} {A : List Addr} {xs : List V} {ds : List PyData} {e' : En} {Q : St → Hp → Prop}, Stt K m G H σ e A → DqA K G xs ds → gf ds e = some e' →
    (∀ (G' H' : Hp) (σ' : St) (A' : List Addr), Step A G H A' G' H' → Stt K m' G' H' σ' e' A' → (∀ j, j ∉ sl → σ'[j]? = σ[j]?) → σ'.length = σ.length → Q σ' H') → g xs σ H Q
structure PGD {ι : Type} (Xf : ι → Cx) (K : PySem.W.Frag) (wk : Bool) (m : List Ty) (tg : Expr) (sl : List Nat) (gf : Gf) (m' : List Ty) : Prop where
  ex : ∃ g : TG, (∀ i, PG (Xf i) tg g) ∧ DG K wk m g sl gf m'
structure PGDs {ι : Type} (Xf : ι → Cx) (K : PySem.W.Frag) (m : List Ty) (tgs : List Expr) (sl : List Nat) (gf : Gsf) (m' : List Ty) : Prop where
  ex : ∃ g : TGs, (∀ i, PGs (Xf i) tgs g) ∧ DGs K m g sl gf m'
def gNm (j : Nat) : Gf := fun d e => some (e.set j d)
def gsNil : Gsf := fun ds e => match ds with | [] => some e | _ => none
def gsCons (g : Gf) (r : Gsf) : Gsf := fun ds e => match ds with | d :: ds => (g d e).bind fun e' => r ds e' | [] => none
def gTp (k : Nat) (r : Gsf) : Gf := fun d e => match d with | .tuple ds => if ds.length = k then r ds e else none | _ => none

section
variable {K : PySem.W.Frag} {G H : Hp}
/-- a slot given an owned (or stable) value -/
theorem stt_set {m : List Ty} {σ : St} {e : En} {A Av : List Addr} {j : Nat} {t : Ty} {d : PyData} {v : V} (st : Stt K m G H σ e A) (hj : j < m.length) (o : Own K G H t d (some v) Av) (nd : (Av ++ A).Nodup) :
    ∃ A', Stt K (m.set j t) G H (σ.set j (some v)) (e.set j d) A' ∧ ∀ a ∈ A', a ∈ Av ++ A := by
  obtain ⟨A0, h0, B, hp⟩ := ownA_hide st.own j
  obtain ⟨A', o', p'⟩ := ownA_put h0 (by rw [List.getElem?_set_self hj]) o
  rw [List.set_set] at o'
  have inA : ∀ a ∈ A0, a ∈ A := fun a h => hp.mem_iff.mpr (List.mem_append_right _ h)
  have n := List.nodup_append.mp nd
  have nA := List.nodup_append.mp (hp.nodup_iff.mp n.2.1)
  refine ⟨A', ⟨o', p'.nodup_iff.mpr (List.nodup_append.mpr ⟨n.1, nA.2.1, fun a ha b hb z => n.2.2 a ha b (inA b hb) z⟩), st.sub⟩, fun a ha => ?_⟩
  rcases List.mem_append.mp (p'.mem_iff.mp ha) with z | z
  · exact List.mem_append_left _ z
  · exact List.mem_append_right _ (inA a z)
end
section
variable {ι : Type} {Xf : ι → Cx} {P : Program} {w : World} {K : PySem.W.Frag} {mg : Str → Option Value} {base : Heap} {n : Nat} [F : Fam Xf P w K mg base n]
variable {m m1 m2 m3 : List Ty} {pos p p2 tpos : Pos} {a b c tg : Expr} {tgs : List Expr} {elts : List Expr} {kk : Nat} {sl sl2 : List Nat} {gf : Gf} {gs : Gsf}
include F in
theorem pg_nm (j : Nat) {x : Str} (hj : j < m.length := by first | decide | rfl | simp) (hi : ∀ i, (Xf i).N[j]? = some x := by intro _; rfl) (hx : ∀ i, Loc (Xf i).env.scope x := by first | (intro _; exact Or.inl rfl) | (intro _; exact Or.inr rfl))
    (hf : ∀ i, (Xf i).fn x = true ∨ (Xf i).env.scope.names.lookup x = some .local := by first | (intro _; exact Or.inl rfl) | (intro _; exact Or.inr rfl)) : PGD Xf K false m (.Name x pos) [j] (gNm j) (m.set j .s) := by
  refine ⟨gName j, fun i => pg_name (F.nd i) (hi i) (hx i) (hf i), fun {G H σ e A x d e' Q} st q hf k => ?_⟩
  cases hf
  obtain ⟨A', st', hA⟩ := stt_set st hj (.s q.strong) (Av := []) st.nd
  exact k G H _ A' ⟨Same.refl G, fun a o h _ => h, fun a ha => .inl (hA a ha), fun a h1 ⟨o, h2⟩ => by rw [h1] at h2; cases h2⟩ st' (fun i hi => by rw [List.getElem?_set_ne]; intro z; exact hi (by simp [z])) (by simp)
theorem pgs_nl : PGDs Xf K m [] [] gsNil m := by
  refine ⟨gNil, fun i => pgs_nil, fun {G H σ e A xs ds e' Q} st q hf k => ?_⟩
  unfold gsNil at hf
  cases ds with
  | nil =>
    cases hf
    exact ⟨List.length_eq_zero_iff.mp q.1, k G H σ A Step.refl st (fun _ _ => rfl) rfl⟩
  | cons _ _ => cases hf
theorem pgs_cn (h1 : PGD Xf K false m a sl gf m1) (h2 : PGDs Xf K m1 tgs sl2 gs m2) (hs : ∀ i, (assignEach (a :: tgs) (Xf i).env).map (·.snd) = assign a (Xf i).env :: (assignEach tgs (Xf i).env).map (·.snd) := by intro _; rfl) : PGDs Xf K m (a :: tgs) (sl ++ sl2) (gsCons gf gs) m2 := by
  obtain ⟨g1, p1, d1⟩ := h1.ex
  obtain ⟨g2, p2, d2⟩ := h2.ex
  refine ⟨gCons g1 g2, fun i => pgs_cons (p1 i) (p2 i) (hs i), fun {G H σ e A xs ds e' Q} st q hf k => ?_⟩
  cases ds with
  | nil => cases hf
  | cons d ds =>
    obtain ⟨e1, hf1, hf⟩ := Option.bind_eq_some_iff.mp (show (gf d e).bind _ = _ from hf)
    cases xs with
    | nil => have := q.1; simp at this
    | cons v vs =>
      refine ⟨v, vs, rfl, d1 st (.inl q.head) hf1 fun G1 H1 σ1 A1 s1 st1 k1 l1 => d2 st1 (q.tail.mono s1.sg) hf fun G2 H2 σ2 A2 s2 st2 k2 l2 => k _ _ _ _ (s1.seq0 s2) st2 (fun j hj => ?_) (l2.trans l1)⟩
      rw [k2 j (fun z => hj (List.mem_append_right _ z)), k1 j (fun z => hj (List.mem_append_left _ z))]
include F in
theorem pg_tp {wk : Bool} {k : Nat} (h : PGDs Xf K m elts sl gs m1) (hk : elts.length = k := by rfl) {kk : Nat} (hpg : ∀ i {t : TGs}, PGs (Xf i) elts t → PG (Xf i) (.Tuple elts kk tpos) (gTup (Xf i).K k t) := by intro i t h; exact pg_tup (by rfl) h) : PGD Xf K wk m (.Tuple elts kk tpos) sl (gTp k gs) m1 := by
  obtain ⟨g, p, d⟩ := h.ex
  refine ⟨gTup K k g, fun i => by have := hpg i (p i); rw [F.kk i] at this; exact this, fun {G H σ e A x dd e' Q} st q hf kont => ?_⟩
  cases dd with
  | tuple ds =>
    have hf : (if ds.length = k then gs ds e else none) = some e' := hf
    split at hf
    · rename_i hl
      obtain ⟨a, xs, rfl, r1, qq⟩ := dqW_tup q
      exact ⟨a, xs, rfl, same_seqT st.sub r1, by rw [qq.1]; exact hl, d st qq hf kont⟩
    · cases hf
  | _ => cases hf
end

/-! ### comprehensions -/
structure BI (ι : Type) where
  i : ι
  s : Shared
  H : Hp
  C : Addr
  cl : List (Str × Addr)
  fp : List Addr
def blkF {ι : Type} (Xf : ι → Cx) (scope : Scope) : BI ι → Cx := fun b => (Xf b.i).blk b.s b.H scope (compEnvC scope b.cl b.C (Xf b.i).env) b.fp
instance {ι : Type} {Xf : ι → Cx} {P : Program} {w : World} {K : PySem.W.Frag} {mg : Str → Option Value} {base : Heap} {n : Nat} [F : Fam Xf P w K mg base n] {scope : Scope} : Fam (blkF Xf scope) P w K mg base n :=
  ⟨fun b => F.prog b.i, fun b => F.w_ b.i, fun b => F.kk b.i, fun b => F.mg_ b.i, fun b => F.base_ b.i, fun b => F.room b.i, fun b => F.nd b.i⟩
instance {ι : Type} {Xf : ι → Cx} [F : FamG Xf] {scope : Scope} : FamG (blkF Xf scope) := ⟨fun b => F.gd b.i, fun b => F.calm b.i, fun b => F.hd b.i⟩

def hideM (m : List Ty) : List Nat → List Ty
  | [] => m
  | v :: vs => (hideM m vs).set v .u
def restE (e : En) (e' : En) : List Nat → En
  | [] => e'
  | v :: vs => restE e (e'.set v (e.getD v .none)) vs
def usB (m : List Ty) : List Nat → Bool
  | [] => true
  | v :: vs => (match m[v]? with | some .u => true | some .s => true | _ => false) && decide (v ∉ vs) && usB m vs
section
variable {K : PySem.W.Frag} {G H : Hp}
theorem ownA_set0 {ts : List Ty} {ds : List PyData} {vs : List (Option V)} {A : List Addr} (h : OwnA K G H ts ds vs A) {j : Nat} (hj : ts[j]? = some .u ∨ ts[j]? = some .s) {t : Ty} {d : PyData} {v : Option V} (o : Own K G H t d v []) :
    OwnA K G H (ts.set j t) (ds.set j d) (vs.set j v) A := by
  induction ts generalizing ds vs A j with
  | nil => cases h; simpa using OwnA.nil
  | cons t0 ts ih =>
    cases h with
    | @cons _ _ d0 ds v0 vs A B h1 h2 =>
      cases j with
      | zero =>
        have hA : A = [] := by
          rcases hj with hj | hj <;> (simp at hj; subst hj; cases h1; rfl)
        subst hA
        simpa using OwnA.cons o h2
      | succ j => simpa using OwnA.cons h1 (ih h2 (by simpa using hj))
theorem hideM_get {m : List Ty} {j : Nat} : ∀ {vs : List Nat}, j ∉ vs → (hideM m vs)[j]? = m[j]?
  | [], _ => rfl
  | v :: vs, h => by
    unfold hideM
    rw [List.getElem?_set_ne (fun z => h (by simp [z])), hideM_get fun z => h (List.mem_cons_of_mem _ z)]
theorem us_cons {m : List Ty} {v : Nat} {vs : List Nat} (h : usB m (v :: vs) = true) : (m[v]? = some .u ∨ m[v]? = some .s) ∧ v ∉ vs ∧ usB m vs = true := by
  unfold usB at h
  simp only [Bool.and_eq_true, decide_eq_true_eq] at h
  refine ⟨?_, h.1.2, h.2⟩
  have h1 := h.1.1
  split at h1 <;> simp_all
theorem wipeA {m : List Ty} {e : En} {σ : St} {A : List Addr} (h : OwnA K G H m e σ A) : ∀ {vs : List Nat}, usB m vs = true → OwnA K G H (hideM m vs) e (wipe σ vs) A
  | [], _ => h
  | v :: vs, us => by
    obtain ⟨h1, h2, h3⟩ := us_cons us
    have ih := wipeA h h3
    unfold hideM wipe
    have hv : (hideM m vs)[v]? = some .u ∨ (hideM m vs)[v]? = some .s := by rw [hideM_get h2]; exact h1
    have hl := ownA_len ih
    have hlt : v < e.length := by
      have : v < (hideM m vs).length := by rcases hv with z | z <;> exact (List.getElem?_eq_some_iff.mp z).1
      omega
    have := ownA_set0 (t := .u) (d := e[v]) (v := none) ih hv (.u _ _)
    rw [set_id (List.getElem?_eq_getElem hlt)] at this
    exact this
theorem unwipeA {m : List Ty} {e0 : En} {σ : St} {G0 : Hp} {A0 : List Addr} {H0 : Hp} (h0 : OwnA K G0 H0 m e0 σ A0) (sg : Same G0 G) : ∀ {vs : List Nat} {e' : En} {A : List Addr}, usB m vs = true → OwnA K G H (hideM m vs) e' (wipe σ vs) A → OwnA K G H m (restE e0 e' vs) σ A
  | [], _, _, _, h => h
  | v :: vs, e', A, us, h => by
    obtain ⟨h1, h2, h3⟩ := us_cons us
    unfold hideM wipe at h
    unfold restE
    have hv : (hideM m vs)[v]? = m[v]? := hideM_get h2
    obtain ⟨t, ht⟩ : ∃ t, m[v]? = some t := by rcases h1 with z | z <;> exact ⟨_, z⟩
    obtain ⟨d, x, Aj, B0, k1, k2, k3, _, _⟩ := ownA_take h0 ht
    have hA : Aj = [] := by
      rcases h1 with z | z <;> (rw [ht] at z; cases z; cases k3; rfl)
    subst hA
    have k3' : Own K G H t d x [] := by
      rcases h1 with z | z
      · rw [ht] at z; cases z; exact .u _ _
      · rw [ht] at z; cases z
        cases k3 with
        | s q => exact .s (q.mono sg)
    have hlv : v < (hideM m vs).length := by rw [← hv] at ht; exact (List.getElem?_eq_some_iff.mp ht).1
    have key := ownA_set0 h (j := v) (.inl (by simp [hlv])) k3'
    rw [List.set_set, set_id (by rw [hv]; exact ht), List.set_set] at key
    have ex : (wipe σ vs).set v x = wipe σ vs := by
      apply set_id
      rw [wipe_out h2]; exact k2
    rw [ex] at key
    have ed : e0.getD v .none = d := by rw [List.getD_eq_getElem?_getD, k1]; rfl
    rw [ed]
    exact unwipeA h0 sg h3 key
theorem ownA_snoc {ts : List Ty} {ds : List PyData} {vs : List (Option V)} {A : List Addr} (h : OwnA K G H ts ds vs A) {t : Ty} {d : PyData} {v : Option V} {B : List Addr} (o : Own K G H t d v B) : OwnA K G H (ts ++ [t]) (ds ++ [d]) (vs ++ [v]) (A ++ B) := by
  induction ts generalizing ds vs A with
  | nil => cases h; simpa using OwnA.cons o .nil
  | cons t0 ts ih =>
    cases h with
    | cons h1 h2 => rw [List.append_assoc]; exact .cons h1 (ih h2)
theorem wipe_in {σ : St} {j : Nat} : ∀ {vs : List Nat}, j ∈ vs → j < σ.length → (wipe σ vs)[j]? = some none
  | v :: vs, h, hl => by
    unfold wipe
    by_cases q : v = j
    · subst q; rw [List.getElem?_set_self (by rw [wipe_length]; exact hl)]
    · rw [List.getElem?_set_ne q]
      rcases List.mem_cons.mp h with z | z
      · exact absurd z.symm q
      · exact wipe_in z hl
theorem wipe_eq {σ σ2 : St} {vs sl : List Nat} (hs : ∀ j ∈ sl, j ∈ vs) (h : ∀ j, j ∉ sl → σ2[j]? = (wipe σ vs)[j]?) (hl : σ2.length = (wipe σ vs).length) : wipe σ2 vs = wipe σ vs := by
  apply List.ext_getElem?
  intro j
  rw [wipe_length] at hl
  by_cases hv : j ∈ vs
  · by_cases hj : j < σ.length
    · rw [wipe_in hv (by omega), wipe_in hv hj]
    · rw [List.getElem?_eq_none (by rw [wipe_length]; omega), List.getElem?_eq_none (by rw [wipe_length]; omega)]
  · rw [wipe_out hv, h j (fun z => hv (hs j z))]
end

def lcL (vs : List Nat) (gf : Gf) (tf : Bf) (ef : Ef) : List PyData → En → Option (List PyData × En)
  | [], e => some ([], e)
  | d :: ds, e => (gf d e).bind fun e1 => (tf e1).bind fun p => if p.1 = true then (ef p.2).bind fun q => (lcL vs gf tf ef ds (restE e q.2 vs)).bind fun r => some (q.1 :: r.1, r.2) else lcL vs gf tf ef ds (restE e p.2 vs)
def eLc (it : Lf) (vs : List Nat) (gf : Gf) (tf : Bf) (ef : Ef) : Ef := fun e => (it e).bind fun p => (lcL vs gf tf ef p.1 p.2).bind fun q => some (.list q.1, restE p.2 q.2 vs)
def bYes : Bf := fun e => some (true, e)
structure PTsD {ι : Type} (Xf : ι → Cx) (K : PySem.W.Frag) (m : List Ty) (ifs : List Expr) (f : Bf) : Prop where
  ex : ∃ tt : TT, (∀ i, PTs (Xf i) ifs tt) ∧ DT K m tt f m
theorem pts_no {ι : Type} {Xf : ι → Cx} {K : PySem.W.Frag} {m : List Ty} : PTsD Xf K m [] bYes := ⟨tYes, fun i => pts_nil, fun st hf k => by cases hf; exact k _ _ _ Step.refl st⟩
theorem pts_if {ι : Type} {Xf : ι → Cx} {K : PySem.W.Frag} {m : List Ty} {c : Expr} {f : Bf} (h : PB Xf K m c f m) : PTsD Xf K m [c] f := by
  obtain ⟨t, p, d⟩ := h.ex
  exact ⟨t, fun i => pts_one (p i), d⟩

/-- what stands while a comprehension runs -/
structure LcI (K : PySem.W.Frag) (mh : List Ty) (ty : Ty) (A1 : List Addr) (G1 H1 : Hp) (D : Addr) (ws : St) (Gc Hc : Hp) (e : En) (A Aa : List Addr) (acc : List V) (da : List PyData) : Prop where
  step : Step A1 G1 H1 (D :: (Aa ++ A)) Gc Hc
  st : Stt K mh Gc Hc ws e A
  atD : Hc D = some (.lst acc)
  gD : Gc D = none
  own : OwnA K Gc Hc (List.replicate da.length ty) da (acc.map some) Aa
  nd : (D :: (Aa ++ A)).Nodup
section
variable {K : PySem.W.Frag} {mh m2 : List Ty} {ty : Ty} {A1 : List Addr} {G1 H1 : Hp} {D : Addr} {ws : St}
theorem LcI.move {Gc Hc : Hp} {e : En} {A Aa : List Addr} {acc : List V} {da : List PyData} (I : LcI K mh ty A1 G1 H1 D ws Gc Hc e A Aa acc da) {B : List Addr} {G2 H2 : Hp} (s : Step A Gc Hc B G2 H2) (ndB : B.Nodup) :
    Step A1 G1 H1 (D :: (Aa ++ B)) G2 H2 ∧ (D :: (Aa ++ B)).Nodup ∧ H2 D = some (.lst acc) ∧ G2 D = none ∧ OwnA K G2 H2 (List.replicate da.length ty) da (acc.map some) Aa := by
  have o1 : ∀ a ∈ D :: Aa, Gc a = none ∧ ∃ o, Hc a = some o := fun a ha => by
    rcases List.mem_cons.mp ha with rfl | ha
    · exact ⟨I.gD, _, I.atD⟩
    · exact ownA_at I.own a ha
  obtain ⟨s3, nd3, hg, hh⟩ := Step.seq (Av := D :: Aa) I.step o1 I.nd s ndB
  exact ⟨s3, nd3, by rw [hh D (List.mem_cons_self ..)]; exact I.atD, hg D (List.mem_cons_self ..), ownA_fr I.own s.sg (fun a ha => hg a (List.mem_cons_of_mem _ ha)) fun a ha => hh a (List.mem_cons_of_mem _ ha)⟩
end
section
variable {ι : Type} {Xf : ι → Cx} {P : Program} {w : World} {K : PySem.W.Frag} {mg : Str → Option Value} {base : Heap} {n : Nat} [F : Fam Xf P w K mg base n]
variable {m m1 m2 m3 : List Ty} {pos p p2 tpos : Pos} {elt iter tg : Expr} {ifs : List Expr} {scope : Scope} {own : List (Str × Nat)} {sl : List Nat} {gf : Gf} {it : Lf} {tf : Bf} {ef : Ef} {ty : Ty}
theorem DE.lc {wk : Bool} {wi : TI} {g : TG} {tt : TT} {te : TE} {vs : List Nat} (hi : DI K wk m wi it m1) (hg : DG K wk (hideM m1 vs) g sl gf m2) (ht : DT K m2 tt tf m2) (he : DE K m2 te ty ef m2) (us : usB m1 vs = true) (hs : ∀ j ∈ sl, j ∈ vs) (le : LeM m2 (hideM m1 vs)) :
    DE K m (tLc wi g tt te vs) (.l ty) (eLc it vs gf tf ef) m1 := by
  intro G H σ e A d e' Q st hf k
  unfold eLc at hf
  obtain ⟨⟨ds, e1⟩, hf1, hf⟩ := Option.bind_eq_some_iff.mp hf
  obtain ⟨⟨rs, ef1⟩, hf2, hf⟩ := Option.bind_eq_some_iff.mp hf
  cases hf
  refine hi st hf1 fun G1 H1 A1 J s1 st1 wk hz => ?_
  intro D hD
  have own1 := wipeA st1.own us
  have st1' : Stt K (hideM m1 vs) G1 H1 (wipe σ vs) e1 A1 := ⟨own1, st1.nd, st1.sub⟩
  obtain ⟨s2, st2, nd2, gD⟩ := new_o (o := .lst []) (B := []) st1' hD
  -- the word
  let T := fun (i : Nat) (Hc : Hp) => ∃ Gc ec A' Aa acc da r, LcI K (hideM m1 vs) ty A1 G1 H1 D (wipe σ vs) Gc Hc ec A' Aa acc da ∧ da.length ≤ i ∧ lcL vs gf tf ef (ds.drop i) ec = some (r, ef1) ∧ rs = da ++ r
  refine ⟨fun i mm Hc => mm = ds.length - i ∧ i ≤ ds.length ∧ T i Hc, ⟨ds.length, by omega, Nat.zero_le _, G1, e1, A1, [], [], [], rs, ⟨s2, st2, upd_same, gD, .nil, nd2⟩, Nat.le_refl _, hf2, rfl⟩, ?_⟩
  rintro i mm Hc ⟨rfl, hle, Gc, ec, A', Aa, acc, da, r, I, hda, hl, hrs⟩
  have sub1 : Same G1 Hc := I.step.sg.trans I.st.sub
  by_cases hi : i < ds.length
  · refine .inr ⟨wk.goes i Hc hi sub1, fun Hn => i < ds.length ∧ T (i + 1) Hn, fun Hn hn => ⟨ds.length - (i + 1), by omega, rfl, by omega, hn.2⟩, fun x Hy hy => ?_⟩
    obtain ⟨Gy, sy, sty, sgy, qy⟩ := wk.yields hi I.step.sg I.st hy
    have hd : ds.drop i = ds[i] :: ds.drop (i + 1) := List.drop_eq_getElem_cons hi
    rw [hd] at hl
    unfold lcL at hl
    obtain ⟨e2, hl1, hl⟩ := Option.bind_eq_some_iff.mp hl
    obtain ⟨⟨b, e3⟩, hl2, hl⟩ := Option.bind_eq_some_iff.mp hl
    refine hg sty (qy _ (List.getElem?_eq_getElem hi)) hl1 fun G3 H3 σ3 A3 s3 st3 k3 l3 => ⟨wipe_eq hs k3 l3, ?_⟩
    have wσ := wipe_eq hs k3 l3
    have usr : usB (hideM m1 vs) vs = true → True := fun _ => trivial
    refine ht st3 hl2 fun G4 H4 A4 s4 st4 => ?_
    have s34 := (sy.seq0 s3).seq0 s4
    -- the turn's end: the mask and the slots of the next turn
    have next : ∀ (G5 H5 : Hp) (A5 : List Addr) (e5 : En), Stt K m2 G5 H5 σ3 e5 A5 → ∃ G6 A6, Step A5 G5 H5 A6 G6 H5 ∧ Stt K (hideM m1 vs) G6 H5 (wipe σ vs) (restE ec e5 vs) A6 := fun G5 H5 A5 e5 st5 => by
      obtain ⟨G6, A6, s6, st6⟩ := stt_le le st5
      refine ⟨G6, A6, s6, ⟨?_, st6.nd, st6.sub⟩⟩
      have hidem : ∀ (us : List Nat) (e' : En) (σ' : St) {A : List Addr} {H : Hp} {G : Hp} {mm : List Ty}, OwnA K G H mm e' σ' A → (∀ v ∈ us, mm[v]? = some .u) → OwnA K G H mm (restE ec e' us) (wipe σ' us) A := by
        intro us
        induction us with
        | nil => intro e' σ' A H G mm h _; exact h
        | cons v us ih =>
          intro e' σ' A H G mm h hu
          unfold restE wipe
          have hv := hu v (List.mem_cons_self ..)
          have a := ownA_set0 (t := .u) (d := ec.getD v .none) (v := none) h (.inl hv) (.u _ _)
          rw [set_id hv] at a
          have b := ih _ _ a fun x hx => hu x (List.mem_cons_of_mem _ hx)
          -- wiping v first or last
          have c : wipe (σ'.set v none) us = (wipe σ' us).set v none := by
            clear ih a b hv hu h
            induction us with
            | nil => rfl
            | cons u us ihu =>
              unfold wipe
              rw [ihu]
              by_cases q : u = v
              · subst q; rfl
              · rw [List.set_comm _ _ (fun z => q z.symm)]
          rw [c] at b; exact b
      have hu : ∀ v ∈ vs, (hideM m1 vs)[v]? = some .u := by
        have aux : ∀ us : List Nat, usB m1 us = true → ∀ v ∈ us, (hideM m1 us)[v]? = some .u := by
          intro us
          induction us with
          | nil => intro _ v h; cases h
          | cons u us ih =>
            intro hus v hv
            obtain ⟨h1, h2, h3⟩ := us_cons hus
            unfold hideM
            by_cases q : u = v
            · subst q
              have : u < (hideM m1 us).length := by
                rw [← hideM_get (m := m1) h2] at h1
                rcases h1 with z | z <;> exact (List.getElem?_eq_some_iff.mp z).1
              simp [this]
            · rw [List.getElem?_set_ne q]
              rcases List.mem_cons.mp hv with z | z
              · exact absurd z.symm q
              · exact ih h3 v z
        exact aux vs us
      have := hidem vs e5 σ3 st6.own hu
      rw [wσ] at this
      exact this
    cases b with
    | true =>
      rw [if_pos rfl] at hl ⊢
      obtain ⟨⟨dy, e5⟩, hl3, hl⟩ := Option.bind_eq_some_iff.mp hl
      obtain ⟨⟨r', ef'⟩, hl4, hl⟩ := Option.bind_eq_some_iff.mp hl
      cases hl
      refine he st4 hl3 fun G5 H5 y Ay A5 s5 st5 o5 nd5 => ?_
      obtain ⟨G6, A6, s6, st6⟩ := next G5 H5 A5 e5 st5
      obtain ⟨s56, nd56, hg6, hh6⟩ := s5.seq (own_at o5) nd5 s6 st6.nd
      have o6 : Own K G6 H5 ty dy (some y) Ay := own_fr o5 s6.sg hg6 fun a ha => rfl
      obtain ⟨s7, nd7, atD, gD7, own7⟩ := I.move (s34.seq0 s56) nd56
      have hacc : acc.length = da.length := by have := (ownA_len I.own).2; simpa using this
      have hz' : acc.length < sizeLine := by
        omega
      refine ⟨acc, atD, hz', hi, G6, restE ec e5 vs, A6, Aa ++ Ay, acc ++ [y], da ++ [dy], r', ?_, by simp; omega, hl4, by rw [hrs]; simp⟩
      have nD : ∀ a ∈ Aa ++ (Ay ++ A6), a ≠ D := fun a ha z => (List.nodup_cons.mp nd7).1 (z ▸ ha)
      have frD : ∀ a, a ≠ D → upd H5 D (.lst (acc ++ [y])) a = H5 a := fun a ha => upd_ne ha
      refine ⟨⟨s7.sg, fun a o h ha => ?_, fun a ha => s7.own a (by simpa [List.append_assoc] using ha), s7.gnew⟩, ⟨ownA_fr st6.own (Same.refl _) (fun a ha => (ownA_at st6.own a ha).1) fun a ha => frD a (nD a (by simp [ha])), st6.nd, fun b x hx => ?_⟩, upd_same, gD7, ?_, by simpa [List.append_assoc] using nd7⟩
      · rw [frD a (ne_of_none h hD)]; exact s7.fr a o h ha
      · rw [frD b (ne_of_none hx gD7)]; exact st6.sub b x hx
      · have a1 : OwnA K G6 (upd H5 D (.lst (acc ++ [y]))) (List.replicate da.length ty) da (acc.map some) Aa := ownA_fr own7 (Same.refl _) (fun a ha => (ownA_at own7 a ha).1) fun a ha => frD a (nD a (by simp [ha]))
        have a2 : Own K G6 (upd H5 D (.lst (acc ++ [y]))) ty dy (some y) Ay := own_fr o6 (Same.refl _) hg6 fun a ha => frD a (nD a (by simp [ha]))
        have a3 := ownA_snoc a1 a2
        rw [List.length_append, List.length_singleton, List.replicate_succ', List.map_append]
        exact a3
    | false =>
      rw [if_neg (by simp)] at hl ⊢
      obtain ⟨G6, A6, s6, st6⟩ := next G4 H4 A4 e3 st4
      obtain ⟨s7, nd7, atD, gD7, own7⟩ := I.move (s34.seq0 s6) st6.nd
      exact ⟨hi, G6, restE ec e3 vs, A6, Aa, acc, da, r, ⟨s7, st6, atD, gD7, own7, nd7⟩, by omega, hl, hrs⟩
  · have hie : i = ds.length := by omega
    subst hie
    refine .inl ⟨wk.stops Hc sub1, ?_⟩
    rw [List.drop_length] at hl
    cases hl
    rw [List.append_nil] at hrs
    subst hrs
    have un := unwipeA (e' := ef1) st1.own I.step.sg us I.st.own
    have nd := List.nodup_cons.mp I.nd
    refine k Gc Hc (.ref D) (D :: Aa) A' (s1.seq0 ⟨I.step.sg, I.step.fr, I.step.own, I.step.gnew⟩) ⟨un, I.st.nd, I.st.sub⟩ (.l I.gD I.atD ?_ I.own) I.nd
    have hacc := (ownA_len I.own).2
    rw [List.length_map] at hacc
    omega
include F in
theorem pd_lc [FG : FamG Xf] {wk : Bool} (own : List (Str × Nat)) (hi : PIt Xf K wk m tg iter it m1) (hg : PGD (blkF Xf scope) K wk (hideM m1 (own.map (·.2))) tg sl gf m2) (ht : PTsD (blkF Xf scope) K m2 ifs tf) (he : PD (blkF Xf scope) K m2 elt ty ef m2)
    (ok : ∀ i, BlkOk (Xf i).N (Xf i).env.scope scope own := by intro _; exact blkOk_by (by rfl)) (us : usB m1 (own.map (·.2)) = true := by rfl) (hs : ∀ j ∈ sl, j ∈ own.map (·.2) := by decide) (le : LeM m2 (hideM m1 (own.map (·.2))) := by repeat (first | exact .nil | refine .cons (by first | exact .rfl _ | exact .u _) ?_))
    (hf : ∀ i x, foldedSetIterable iter (Xf i).env x = pure x := by intro _ _; rfl) : PD Xf K m (.ListComp elt [⟨tg, iter, ifs, 0⟩] scope pos) (.l ty) (eLc it (own.map (·.2)) gf tf ef) m1 := by
  obtain ⟨wi, pi, di⟩ := hi.ex
  obtain ⟨g, pg, dg⟩ := hg.ex
  obtain ⟨tt, pt, dt⟩ := ht.ex
  obtain ⟨te, pe, de⟩ := he.ex
  exact ⟨_, fun i => pe_lc (FG.calm i) (F.nd i) (pi i) (ok i) (fun s H C cl fp => pg ⟨i, s, H, C, cl, fp⟩) (fun s H C cl fp => pt ⟨i, s, H, C, cl, fp⟩) (fun s H C cl fp => pe ⟨i, s, H, C, cl, fp⟩) (hf i), DE.lc di dg dt de us hs le⟩
end
end DL

namespace DL
open PySem L2 PySem.Spec

/-! ### quiet readings: the heap only grows, what is owned is looked at -/
abbrev Gq := En → Option PyData
def DQv (K : PySem.W.Frag) (m : List Ty) (te : TE) (g : Gq) : Prop :=
  ∀ {G H : Hp} {σ : St} {e : En} {A : List Addr} {d : PyData} {Q : VK}, Stt K m G H σ e A → g e = some d → (∀ (H' : Hp) (v : V), Same H H' → Dq K H' v d → Q v H') → te σ H Q
structure PQ {ι : Type} (Xf : ι → Cx) (K : PySem.W.Frag) (m : List Ty) (e : Expr) (g : Gq) : Prop where
  ex : ∃ te : TE, (∀ i, PE (Xf i) e te) ∧ DQv K m te g
def q1 (gg : PyData → Option PyData) (a : Gq) : Gq := fun e => (a e).bind gg
def q2 (gg : PyData → PyData → Option PyData) (a b : Gq) : Gq := fun e => (a e).bind fun x => (b e).bind fun y => gg x y
def qVar (j : Nat) : Gq := fun e => some (e.getD j .none)
def qC (d : PyData) : Gq := fun _ => some d
section
variable {K : PySem.W.Frag} {G H H' : Hp} {m : List Ty} {σ : St} {e : En} {A : List Addr}
theorem stt_grow (st : Stt K m G H σ e A) (s : Same H H') : Step A G H A G H' ∧ Stt K m G H' σ e A :=
  ⟨⟨Same.refl G, fun a o h _ => s a o h, fun a h => .inl h, fun a h1 ⟨o, h2⟩ => by rw [h1] at h2; cases h2⟩,
    ⟨ownA_fr st.own (Same.refl G) (fun a ha => (ownA_at st.own a ha).1) fun a ha => by obtain ⟨o, h⟩ := (ownA_at st.own a ha).2; rw [h, s a o h], st.nd, st.sub.trans s⟩⟩
theorem stt0 (K : PySem.W.Frag) (H : Hp) : Stt K [] H H [] [] [] := ⟨.nil, List.nodup_nil, Same.refl H⟩
theorem own_snap {t : Ty} {d : PyData} {v : Option V} {A : List Addr} (o : Own K G H t d v A) (s : Same G H) (hn : nou t = true) : ∃ x, v = some x ∧ Dq K H x d := own_frz o s (fun _ _ => rfl) hn
theorem D2.q {r : R2} {ty : Ty} {gg : PyData → PyData → Option PyData} (h : D2 K r ty gg) (hn : nou ty = true) {x y : V} {dx dy d : PyData} {Q : VK} (hx : Dq K H x dx) (hy : Dq K H y dy) (hg : gg dx dy = some d) (k : ∀ (H' : Hp) (v : V), Same H H' → Dq K H' v d → Q v H') : r x y H Q :=
  h (stt0 K H) hx hy hg fun G' H' v Av A' s st o _ => by
    obtain ⟨w, hw, q⟩ := own_snap o st.sub hn
    cases hw
    exact k H' v (fun a o ha => s.fr a o ha (by simp)) q
theorem D1.q {r : V → Hp → VK → Prop} {ty : Ty} {gg : PyData → Option PyData} (h : D1 K r ty gg) (hn : nou ty = true) {x : V} {dx d : PyData} {Q : VK} (hx : Dq K H x dx) (hg : gg dx = some d) (k : ∀ (H' : Hp) (v : V), Same H H' → Dq K H' v d → Q v H') : r x H Q :=
  h (stt0 K H) hx hg fun G' H' v Av A' s st o _ => by
    obtain ⟨w, hw, q⟩ := own_snap o st.sub hn
    cases hw
    exact k H' v (fun a o ha => s.fr a o ha (by simp)) q
theorem DQv.bin {ta tb : TE} {r : R2} {ty : Ty} {gg : PyData → PyData → Option PyData} {f g : Gq} (ha : DQv K m ta f) (hb : DQv K m tb g) (hr : D2 K r ty gg) (hn : nou ty = true) : DQv K m (tOp r ta tb) (q2 gg f g) := by
  intro G H σ e A d Q st hf k
  obtain ⟨x, h1, hf⟩ := Option.bind_eq_some_iff.mp hf
  obtain ⟨y, h2, hf⟩ := Option.bind_eq_some_iff.mp hf
  refine ha st h1 fun H1 v s1 qx => hb (stt_grow st s1).2 h2 fun H2 w s2 qy => hr.q hn (qx.mono s2) qy hf fun H3 z s3 qz => k H3 z ((s1.trans s2).trans s3) qz
end
section
variable {ι : Type} {Xf : ι → Cx} {P : Program} {w : World} {K : PySem.W.Frag} {mg : Str → Option Value} {base : Heap} {n : Nat} [F : Fam Xf P w K mg base n]
variable {m m1 m2 m3 : List Ty} {pos p p2 apos cpos : Pos} {a b c : Expr} {f g h : Gq} {ty t : Ty} {ts : List Ty}
theorem pq_var (j : Nat) {t : Ty} {x : Str} (hm : m[j]? = some t := by rfl) (hn : nou t = true := by rfl) (hN : ∀ i, (Xf i).N[j]? = some x := by intro _; rfl)
    (hv : ∀ i, Vis (Xf i).env.scope x := by first | (intro _; exact Or.inl rfl) | (intro _; exact Or.inr (Or.inl rfl)) | (intro _; exact Or.inr (Or.inr rfl))) (hd : (x == ("__debug__" : Str)) = false := by decide)
    (hcd : (x == ("__classdict__" : Str)) = false := by decide) : PQ Xf K m (.Name x pos) (qVar j) := by
  refine ⟨tVar j, fun i => pe_var (hN i) (hv i) hd hcd, fun {G H σ e A d Q} st hf k => ?_⟩
  obtain ⟨d', v, Aj, A0, h1, h2, h3, _, _⟩ := ownA_take st.own hm
  obtain ⟨x', hx, q⟩ := own_snap h3 st.sub hn
  subst hx
  cases hf
  rw [List.getD_eq_getElem?_getD, h1] at k
  exact ⟨x', h2, k H x' (Same.refl H) q⟩
theorem pq_int {i : Int} {j} : PQ Xf K m (.Constant (.int i) j pos) (qC (.int i)) := ⟨_, fun _ => pe_int, fun {G H σ e A d Q} st hf k => by cases hf; exact k H _ (Same.refl H) (.int i)⟩
/-- the new empty list, looked at only -/
theorem pq_nil : PQ Xf K m (.List [] pos) (qC (.list [])) := ⟨_, fun _ => pe_lst pa_nil, fun {G H σ e A d Q} st hf k => by
  cases hf
  refine ⟨Nat.zero_le _, fun p hp => k _ _ (fun b x hx => by rw [upd_ne (ne_of_none hx hp)]; exact hx) (.lst (.inl upd_same) rfl (Nat.zero_le _) fun i v d h _ => by simp at h)⟩⟩
theorem pq_ix {gg : PyData → PyData → Option PyData} (ho : Ix2 Xf K ty gg) (ha : PQ Xf K m a f) (hb : PQ Xf K m b g) (hs : PlainIx b := by exact fun _ _ => rfl) (hn : nou ty = true := by rfl) : PQ Xf K m (.Subscript a b pos) (q2 gg f g) := by
  obtain ⟨r, hr, dr⟩ := ho.ex
  obtain ⟨ta, pa, da⟩ := ha.ex
  obtain ⟨tb, pb, db⟩ := hb.ex
  exact ⟨_, fun i => pe_ix (hr i) (pa i) (pb i) hs, DQv.bin da db dr hn⟩
/-- f(a), a built-in -/
theorem DQv.un {r : V → Hp → VK → Prop} {ta : TE} {gg : PyData → Option PyData} (da : DQv K m ta f) (dr : D1 K r ty gg) (hn : nou ty = true) : DQv K m (fun σ H Q => ta σ H fun x H1 => r x H1 Q) (q1 gg f) := by
  intro G H σ e A d Q st hf k
  obtain ⟨x, h1, hf⟩ := Option.bind_eq_some_iff.mp hf
  exact da st h1 fun H1 v s1 qx => dr.q hn qx hf fun H2 z s2 qz => k H2 z (s1.trans s2) qz
include F in
theorem pq_b1 {x : Str} {id : String} {gg : PyData → Option PyData} (hc : Cl1 Xf K (.builtin id) ty gg) (hm : mg x = none) (hv : bootBuiltins x = some (.builtin id)) (ha : PQ Xf K m a f) (hy : nou ty = true := by rfl) (hg : ∀ i, Gl (Xf i) x := by intro _; rfl)
    (hn : x ≠ "__name__" := by decide) (hdb : (x == ("__debug__" : Str)) = false := by decide) (he : ∀ i, starEach [a] (Xf i).env = (false, eval a (Xf i).env) :: starEach [] (Xf i).env := by intro _; rfl) (hpl : ∀ i, (backTo pos (starEach [] (Xf i).env)).any (·.1) = false := by intro _; rfl) : PQ Xf K m (.Call (.Name x p) [a] [] pos) (q1 gg f) := by
  obtain ⟨r, hr, dr⟩ := hc.ex
  obtain ⟨ta, pa, da⟩ := ha.ex
  exact ⟨_, fun i => pe_callB (hr i) (hg i) (by rw [F.mg_ i]; exact hm) hv (pa_cons (pa i) pa_nil (he i)) hn hdb (he i) (hpl i), DQv.un da dr hy⟩

/-! ### quiet readings taken up -/
def scD : PyData → Bool
  | .none | .bool _ | .int _ | .str _ => true
  | _ => false
theorem sc_any {K : PySem.W.Frag} {G H : Hp} {v : V} {d : PyData} (q : Dq K H v d) (h : scD d = true) : Dq K G v d := by
  cases q with
  | non => exact .non
  | bl b => exact .bl b
  | int i => exact .int i
  | str x hx => exact .str x hx
  | lst => cases h
  | tup => cases h
  | dic => cases h
def eQ (g : Gq) : Ef := fun e => (g e).bind fun d => if scD d = true then some (d, e) else none
def bQ (g : Gq) : Bf := fun e => (g e).bind fun d => (gTruth d).map fun b => (b, e)
theorem pd_q (ha : PQ Xf K m a f) : PD Xf K m a .s (eQ f) m := by
  obtain ⟨ta, pa, da⟩ := ha.ex
  refine ⟨ta, pa, fun {G H σ e A d e' Q} st hf k => ?_⟩
  obtain ⟨x, h1, hf⟩ := Option.bind_eq_some_iff.mp hf
  obtain ⟨h2, h3⟩ := ite_some hf
  cases h3
  exact da st h1 fun H1 v s1 q => k G H1 v [] A (stt_grow st s1).1 (stt_grow st s1).2 (.s (sc_any q h2)) st.nd
def bQT (g : Gq) : Bf := fun e => (g e).bind fun d => match d with | .bool b => some (b, e) | _ => none
theorem pb_qcmp {op : CmpOp} {gg : PyData → PyData → Option PyData} (ho : Op2 Xf K (compareOp op) .s gg) (ha : PQ Xf K m a f) (hb : PQ Xf K m b g) (hm : behindInMarks op b = false := by first | exact nomark _ | rfl) : PB Xf K m (.Compare a [op] [b] pos) (bQT (q2 gg f g)) m := by
  obtain ⟨r, hr, dr⟩ := ho.ex
  obtain ⟨ta, pa, da⟩ := ha.ex
  obtain ⟨tb, pb, db⟩ := hb.ex
  refine ⟨_, fun i => pt_cmpR (hr i) (pa i) (pb i) hm, fun {G H σ e A b e' Q} st hf k => ?_⟩
  obtain ⟨x, h1, hf⟩ := Option.bind_eq_some_iff.mp hf
  refine DQv.bin da db dr rfl st h1 fun H1 v s1 q => ?_
  cases q with
  | bl b1 => cases hf; exact ⟨_, rfl, k _ _ _ (stt_grow st s1).1 (stt_grow st s1).2⟩
  | _ => cases hf
end

/-! ### pure stable values: nothing is given up for them -/
def DPv (K : PySem.W.Frag) (m : List Ty) (te : TE) (g : Gq) : Prop :=
  ∀ {G H : Hp} {σ : St} {e : En} {A : List Addr} {d : PyData} {Q : VK}, Stt K m G H σ e A → g e = some d → (∀ (H' : Hp) (v : V), Same H H' → Dq K G v d → Q v H') → te σ H Q
structure PV {ι : Type} (Xf : ι → Cx) (K : PySem.W.Frag) (m : List Ty) (e : Expr) (g : Gq) : Prop where
  ex : ∃ te : TE, (∀ i, PE (Xf i) e te) ∧ DPv K m te g
def qS (g : Gq) : Gq := fun e => (g e).bind fun d => if scD d = true then some d else none
section
variable {ι : Type} {Xf : ι → Cx} {P : Program} {w : World} {K : PySem.W.Frag} {mg : Str → Option Value} {base : Heap} {n : Nat} [F : Fam Xf P w K mg base n]
variable {m m1 m2 m3 : List Ty} {pos p p2 apos cpos : Pos} {a b c : Expr} {f g h : Gq} {ty t : Ty} {ts : List Ty}
end

/-! ### places: an owned list within a variable -/
abbrev Pf := En → PyData → En
def DPl (K : PySem.W.Frag) (m : List Ty) (te : TE) (ty : Ty) (get : Gq) (put : Pf) : Prop :=
  ∀ {G H : Hp} {σ : St} {e : En} {A : List Addr} {d : PyData}, Stt K m G H σ e A → get e = some d → ∃ (a : Addr) (Ad Ar : List Addr), A.Perm (Ad ++ Ar) ∧ Own K G H ty d (some (.ref a)) Ad ∧
    (∀ {Q : VK}, (∀ H', Same H H' → Q (.ref a) H') → te σ H Q) ∧
    ∀ {G' H' : Hp} {d' : PyData} {Ad' : List Addr}, Same G G' → Own K G' H' ty d' (some (.ref a)) Ad' → (∀ b ∈ Ar, H' b = H b ∧ G' b = none) → ∃ A', OwnA K G' H' m (put e d') σ A' ∧ A'.Perm (Ad' ++ Ar)
structure PPl {ι : Type} (Xf : ι → Cx) (K : PySem.W.Frag) (m : List Ty) (e : Expr) (ty : Ty) (get : Gq) (put : Pf) : Prop where
  ex : ∃ te : TE, (∀ i, PE (Xf i) e te) ∧ DPl K m te ty get put
def lstTy : Ty → Bool
  | .l _ => true
  | .r _ => true
  | .d => true
  | .t => true
  | .o _ _ _ => true
  | _ => false
def pVar (j : Nat) : Pf := fun e d => e.set j d
def itemD (d : PyData) (i : PyData) : Option PyData := match d, i with
  | .list ds, .int k => atI ds k
  | _, _ => none
def setD (d : PyData) (i : PyData) (x : PyData) : PyData := match d, i with
  | .list ds, .int k => match ixN ds.length k with
    | some j => .list (ds.set j x)
    | none => d
  | _, _ => d
def gSub1 (g gi : Gq) : Gq := fun e => (g e).bind fun d => (gi e).bind fun i => itemD d i
def pSub1 (g gi : Gq) (pt : Pf) : Pf := fun e x => pt e (setD ((g e).getD .none) ((gi e).getD .none) x)
section
variable {ι : Type} {Xf : ι → Cx} {P : Program} {w : World} {K : PySem.W.Frag} {mg : Str → Option Value} {base : Heap} {n : Nat} [F : Fam Xf P w K mg base n]
variable {m m1 m2 m3 : List Ty} {pos p p2 apos cpos : Pos} {a b c : Expr} {f g gi h : Gq} {pt : Pf} {ty t : Ty} {ts : List Ty}
theorem pp_var (j : Nat) {t : Ty} {x : Str} (hm : m[j]? = some t := by rfl) (hl : lstTy t = true := by rfl) (hN : ∀ i, (Xf i).N[j]? = some x := by intro _; rfl)
    (hv : ∀ i, Vis (Xf i).env.scope x := by first | (intro _; exact Or.inl rfl) | (intro _; exact Or.inr (Or.inl rfl)) | (intro _; exact Or.inr (Or.inr rfl))) (hd : (x == ("__debug__" : Str)) = false := by decide)
    (hcd : (x == ("__classdict__" : Str)) = false := by decide) : PPl Xf K m (.Name x pos) t (qVar j) (pVar j) := by
  refine ⟨tVar j, fun i => pe_var (hN i) (hv i) hd hcd, fun {G H σ e A d} st hf => ?_⟩
  obtain ⟨d', v, Aj, A0, h1, h2, h3, h4, hp⟩ := ownA_take st.own hm
  cases hf
  have ed : e.getD j .none = d' := by rw [List.getD_eq_getElem?_getD, h1]; rfl
  rw [ed]
  have hj : (m.set j .u)[j]? = some .u := by
    have := (List.getElem?_eq_some_iff.mp hm).1
    simp [this]
  obtain ⟨a, rfl⟩ : ∃ a : Addr, v = some (.ref a) := by
    cases h3 with
    | u => cases hl
    | s => cases hl
    | e => cases hl
    | k => cases hl
    | a => cases hl
    | q => cases hl
    | d => exact ⟨_, rfl⟩
    | t => exact ⟨_, rfl⟩
    | o => exact ⟨_, rfl⟩
    | f => cases hl
    | x => cases hl
    | l => exact ⟨_, rfl⟩
    | r => exact ⟨_, rfl⟩
  refine ⟨a, Aj, A0, hp, h3, fun {Q} k => ⟨_, h2, k H (Same.refl H)⟩, fun {G' H' d2 Ad'} sg o hr => ?_⟩
  obtain ⟨A', o', p'⟩ := ownA_put (ownA_fr h4 sg (fun b hb => (hr b hb).2) fun b hb => (hr b hb).1) hj o
  rw [List.set_set, set_id hm, set_id h2] at o'
  exact ⟨A', o', p'⟩
theorem repl_get {t : Ty} {n j : Nat} (h : j < n) : (List.replicate n t)[j]? = some t := by rw [List.getElem?_replicate, if_pos h]
theorem repl_set {t : Ty} {n j : Nat} : (List.replicate n t).set j t = List.replicate n t := by
  apply List.ext_getElem?
  intro i
  rw [List.getElem?_set]
  split
  · rename_i h; subst h; split
    · rw [List.getElem?_replicate]; simp_all
    · rw [List.getElem?_eq_none (by omega)]
  · rfl
/-- the inner list of a list of lists -/
theorem DPl.sub {te ti : TE} (hp : DPl K m te (.l t) g pt) (hi : DQv K m ti gi) (hl : lstTy t = true) : DPl K m (tOp (rIxL K) te ti) t (gSub1 g gi) (pSub1 g gi pt) := by
  intro G H σ e A d st hf
  obtain ⟨dl, h1, hf⟩ := Option.bind_eq_some_iff.mp hf
  obtain ⟨di, h2, hf⟩ := Option.bind_eq_some_iff.mp hf
  obtain ⟨a, Ad, Ar, hp1, o1, ev, back⟩ := hp st h1
  cases o1 with
  | @l _ _ vs ds A1 ga ha hz oA =>
    cases di with
    | int k =>
      have hf : (ixN ds.length k).bind (fun j => ds[j]?) = some d := hf
      obtain ⟨j, hj, hd⟩ := Option.bind_eq_some_iff.mp hf
      have hjl : j < ds.length := (List.getElem?_eq_some_iff.mp hd).1
      obtain ⟨d', v, Aj, A0, e1, e2, oj, oR, pj⟩ := ownA_take oA (j := j) (repl_get hjl)
      rw [hd] at e1; cases e1
      have len := (ownA_len oA).2
      rw [List.length_map] at len
      have hvj : ∃ w, v = some w ∧ vs[j]? = some w := by
        rw [List.getElem?_map] at e2
        obtain ⟨w, hw, e3⟩ := Option.map_eq_some_iff.mp e2
        exact ⟨w, e3.symm, hw⟩
      obtain ⟨w, rfl, hw⟩ := hvj
      obtain ⟨b, rfl⟩ : ∃ b : Addr, w = .ref b := by
        cases oj with
        | u => cases hl
        | s => cases hl
        | e => cases hl
        | k => cases hl
        | a => cases hl
        | q => cases hl
        | d => exact ⟨_, rfl⟩
        | t => exact ⟨_, rfl⟩
        | o => exact ⟨_, rfl⟩
        | f => cases hl
        | x => cases hl
        | l => exact ⟨_, rfl⟩
        | r => exact ⟨_, rfl⟩
      refine ⟨b, Aj, a :: (A0 ++ Ar), ?_, oj, fun {Q} kq => ?_, fun {G' H' d2 Ad'} sg o hr => ?_⟩
      · refine hp1.trans (List.perm_iff_count.mpr fun z => ?_)
        have := List.perm_iff_count.mp pj z
        simp only [List.count_append, List.count_cons, List.cons_append] at this ⊢
        omega
      · refine ev fun H1 s1 => hi (stt_grow st s1).2 h2 fun H2 x s2 q => ?_
        cases q with
        | int k =>
          refine ⟨a, vs, k, .ref b, rfl, rfl, .inl (.inl ((s1.trans s2) _ _ ha)), ?_, kq H2 (s1.trans s2)⟩
          unfold atI
          rw [len, hj]; exact hw
      · have hA0 : ∀ b ∈ A0, H' b = H b ∧ G' b = none := fun b hb => hr b (List.mem_cons_of_mem _ (List.mem_append_left _ hb))
        have hju : ((List.replicate ds.length t).set j .u)[j]? = some .u := by rw [List.getElem?_set_self (by rw [List.length_replicate]; exact hjl)]
        obtain ⟨A2, o2, p2⟩ := ownA_put (ownA_fr oR sg (fun b hb => (hA0 b hb).2) fun b hb => (hA0 b hb).1) hju o
        rw [List.set_set, repl_set, set_id e2] at o2
        have hra := hr a (List.mem_cons_self ..)
        have o3 : Own K G' H' (.l t) (.list (ds.set j d2)) (some (.ref a)) (a :: A2) := .l hra.2 (by rw [hra.1]; exact ha) hz (by rw [List.length_set]; exact o2)
        obtain ⟨A3, o4, p4⟩ := back sg o3 fun b hb => hr b (List.mem_cons_of_mem _ (List.mem_append_right _ hb))
        refine ⟨A3, ?_, p4.trans (List.perm_iff_count.mpr fun z => ?_)⟩
        · have : pSub1 g gi pt e d2 = pt e (.list (ds.set j d2)) := by
            show pt e (setD ((g e).getD .none) ((gi e).getD .none) d2) = _
            rw [h1, h2]
            show pt e (match ixN ds.length k with | some j => .list (ds.set j d2) | none => .list ds) = _
            rw [hj]
          rw [this]; exact o4
        · have := List.perm_iff_count.mp p2 z
          simp only [List.count_append, List.count_cons, List.cons_append] at this ⊢
          omega
    | _ => cases hf
/-- the k-th part of a record -/
theorem DPl.fld {te ti : TE} {k : Nat} (hp : DPl K m te (.r ts) g pt) (hi : DQv K m ti gi) (hk : ∀ e, gi e = some (.int (k : Nat))) (ht : ts[k]? = some t) (hl : lstTy t = true) : DPl K m (tOp (rIxL K) te ti) t (gSub1 g gi) (pSub1 g gi pt) := by
  intro G H σ e A d st hf
  obtain ⟨dl, h1, hf⟩ := Option.bind_eq_some_iff.mp hf
  obtain ⟨di, h2, hf⟩ := Option.bind_eq_some_iff.mp hf
  obtain ⟨a, Ad, Ar, hp1, o1, ev, back⟩ := hp st h1
  cases o1 with
  | @r _ _ vs ds A1 ga ha hz oA =>
    rw [hk e] at h2; cases h2
    have hf : (ixN ds.length ((k : Nat) : Int)).bind (fun j => ds[j]?) = some d := hf
    obtain ⟨j, hj, hd⟩ := Option.bind_eq_some_iff.mp hf
    have hjk : j = k := by
      have q := ixN_seq hj
      have q1 := q.1
      rw [seqIndex_of (by omega) (by omega)] at q1
      have := Option.some.inj q1
      omega
    subst hjk
    obtain ⟨d', v, Aj, A0, e1, e2, oj, oR, pj⟩ := ownA_take oA (j := j) ht
    rw [hd] at e1; cases e1
    have len := (ownA_len oA).2
    rw [List.length_map] at len
    have hvj : ∃ w, v = some w ∧ vs[j]? = some w := by
      rw [List.getElem?_map] at e2
      obtain ⟨w, hw, e3⟩ := Option.map_eq_some_iff.mp e2
      exact ⟨w, e3.symm, hw⟩
    obtain ⟨w, rfl, hw⟩ := hvj
    obtain ⟨b, rfl⟩ : ∃ b : Addr, w = .ref b := by
      cases oj with
      | u => cases hl
      | s => cases hl
      | e => cases hl
      | k => cases hl
      | a => cases hl
      | q => cases hl
      | d => exact ⟨_, rfl⟩
      | t => exact ⟨_, rfl⟩
      | o => exact ⟨_, rfl⟩
      | f => cases hl
      | x => cases hl
      | l => exact ⟨_, rfl⟩
      | r => exact ⟨_, rfl⟩
    refine ⟨b, Aj, a :: (A0 ++ Ar), ?_, oj, fun {Q} kq => ?_, fun {G' H' d2 Ad'} sg o hr => ?_⟩
    · refine hp1.trans (List.perm_iff_count.mpr fun z => ?_)
      have := List.perm_iff_count.mp pj z
      simp only [List.count_append, List.count_cons, List.cons_append] at this ⊢
      omega
    · refine ev fun H1 s1 => hi (stt_grow st s1).2 (hk e) fun H2 x s2 q => ?_
      cases q with
      | int =>
        refine ⟨a, vs, _, .ref b, rfl, rfl, .inl (.inl ((s1.trans s2) _ _ ha)), ?_, kq H2 (s1.trans s2)⟩
        unfold atI
        rw [len, hj]; exact hw
    · have hA0 : ∀ b ∈ A0, H' b = H b ∧ G' b = none := fun b hb => hr b (List.mem_cons_of_mem _ (List.mem_append_left _ hb))
      have hju : (ts.set j .u)[j]? = some .u := by rw [List.getElem?_set_self (List.getElem?_eq_some_iff.mp ht).1]
      obtain ⟨A2, o2, p2⟩ := ownA_put (ownA_fr oR sg (fun b hb => (hA0 b hb).2) fun b hb => (hA0 b hb).1) hju o
      rw [List.set_set, set_id ht, set_id e2] at o2
      have hra := hr a (List.mem_cons_self ..)
      have o3 : Own K G' H' (.r ts) (.list (ds.set j d2)) (some (.ref a)) (a :: A2) := .r hra.2 (by rw [hra.1]; exact ha) hz o2
      obtain ⟨A3, o4, p4⟩ := back sg o3 fun b hb => hr b (List.mem_cons_of_mem _ (List.mem_append_right _ hb))
      refine ⟨A3, ?_, p4.trans (List.perm_iff_count.mpr fun z => ?_)⟩
      · have : pSub1 g gi pt e d2 = pt e (.list (ds.set j d2)) := by
          show pt e (setD ((g e).getD .none) ((gi e).getD .none) d2) = _
          rw [h1, hk e]
          show pt e (match ixN ds.length ((j : Nat) : Int) with | some j => .list (ds.set j d2) | none => .list ds) = _
          rw [hj]
        rw [this]; exact o4
      · have := List.perm_iff_count.mp p2 z
        simp only [List.count_append, List.count_cons, List.cons_append] at this ⊢
        omega
include F in
theorem pp_fld (k : Nat) {j} {ki : Int} (hp : PPl Xf K m a (.r ts) g pt) (hk : ki = (k : Nat) := by rfl) (ht : ts[k]? = some t := by rfl) (hl : lstTy t = true := by rfl) : PPl Xf K m (.Subscript a (.Constant (.int ki) j p) pos) t (gSub1 g (qC (.int ki))) (pSub1 g (qC (.int ki)) pt) := by
  obtain ⟨ta, pa, da⟩ := hp.ex
  obtain ⟨tb, pb, db⟩ := (pq_int (Xf := Xf) (K := K) (m := m) (i := ki) (j := j) (pos := p)).ex
  exact ⟨_, fun i => by have := pe_ix (ix_list (X := Xf i)) (pa i) (pb i) (fun _ _ => rfl) (pos := pos); rw [F.kk i] at this; exact this, DPl.fld da db (fun e => by subst hk; rfl) ht hl⟩
end
end DL

namespace DL
open PySem L2 PySem.Spec

/-! ### statements over data -/
inductive Out where
  | nx | bk | ct | rt (d : PyData)
abbrev Sf := En → Option (Out × En)
structure Mk where
  b : List Ty
  c : List Ty
  r : List Ty
  po : List Nat
  ty : Ty
def Pin (po : List Nat) (σ σ' : St) : Prop := ∀ j ∈ po, σ'[j]? = σ[j]?
theorem Pin.refl {po : List Nat} {σ : St} : Pin po σ σ := fun _ _ => rfl
theorem Pin.trans {po : List Nat} {σ σ1 σ2 : St} (h : Pin po σ σ1) (k : Pin po σ1 σ2) : Pin po σ σ2 := fun j hj => (k j hj).trans (h j hj)
theorem Pin.set {po : List Nat} {σ : St} {j : Nat} {x : Option V} (h : j ∉ po) : Pin po σ (σ.set j x) := fun i hi => by rw [List.getElem?_set_ne]; intro z; exact h (z ▸ hi)
def Fin (K : PySem.W.Frag) (M : Mk) (mn : List Ty) (A : List Addr) (G H : Hp) (σ : St) (D : Ends) (e' : En) : Out → Prop
  | .nx => ∀ (G' H' : Hp) (σ' : St) (A' : List Addr), Step A G H A' G' H' → Stt K mn G' H' σ' e' A' → Pin M.po σ σ' → D.nx σ' H'
  | .bk => ∀ (G' H' : Hp) (σ' : St) (A' : List Addr), Step A G H A' G' H' → Stt K M.b G' H' σ' e' A' → Pin M.po σ σ' → D.bk σ' H'
  | .ct => ∀ (G' H' : Hp) (σ' : St) (A' : List Addr), Step A G H A' G' H' → Stt K M.c G' H' σ' e' A' → Pin M.po σ σ' → D.ct σ' H'
  | .rt d => ∀ (G' H' : Hp) (σ' : St) (v : V) (Av A' : List Addr), Step A G H (Av ++ A') G' H' → Stt K M.r G' H' σ' e' A' → Own K G' H' M.ty d (some v) Av → (Av ++ A').Nodup → Pin M.po σ σ' → D.rt v H'
def DS (K : PySem.W.Frag) (M : Mk) (m : List Ty) (t : TS) (f : Sf) (mn : List Ty) : Prop :=
  ∀ {G H : Hp} {σ : St} {e : En} {A : List Addr} {o : Out} {e' : En} {D : Ends}, Stt K m G H σ e A → f e = some (o, e') → Fin K M mn A G H σ D e' o → t D σ H
structure PSd {ι : Type} (Xf : ι → Cx) (K : PySem.W.Frag) (M : Mk) (m : List Ty) (st : Stmt) (f : Sf) (mn : List Ty) : Prop where
  ex : ∃ t : TS, (∀ i, PS (Xf i) st t) ∧ DS K M m t f mn
structure PSsd {ι : Type} (Xf : ι → Cx) (K : PySem.W.Frag) (M : Mk) (m : List Ty) (st : List Stmt) (f : Sf) (mn : List Ty) : Prop where
  ex : ∃ t : TS, (∀ i, PSs (Xf i) st t) ∧ DS K M m t f mn
class FamN {ι : Type} (Xf : ι → Cx) : Prop where
  ps : ∀ i, PassesOwn (model (Xf i).prog (Xf i).w) (Xf i).A (Xf i).env (Xf i).xe

/-- turns enough -/
def fuel : Nat := 1048576
def sNil : Sf := fun e => some (.nx, e)
def sSeq (f g : Sf) : Sf := fun e => (f e).bind fun p => match p.1 with
  | .nx => g p.2
  | o => some (o, p.2)
def sIf (c : Bf) (f g : Sf) : Sf := fun e => (c e).bind fun p => if p.1 = true then f p.2 else g p.2
def sRet (f : Ef) : Sf := fun e => (f e).map fun p => (.rt p.1, p.2)
def sBrk : Sf := fun e => some (.bk, e)
def sCnt : Sf := fun e => some (.ct, e)
def sRetN : Sf := fun e => some (.rt .none, e)
def sDrop (f : Ef) : Sf := fun e => (f e).map fun p => (.nx, p.2)
def sAsg (j : Nat) (f : Ef) : Sf := fun e => (f e).map fun p => (.nx, p.2.set j p.1)
def sTg (f : Ef) (g : Gf) : Sf := fun e => (f e).bind fun p => (g p.1 p.2).map fun e' => (.nx, e')
def sPar (i j : Nat) (f : Lf) : Sf := fun e => (f e).bind fun p => match p.1 with
  | [x, y] => some (.nx, (p.2.set i x).set j y)
  | _ => none
def sPar3 (i j l : Nat) (f : Lf) : Sf := fun e => (f e).bind fun p => match p.1 with
  | [x, y, z] => some (.nx, ((p.2.set i x).set j y).set l z)
  | _ => none
def forL (g : Gf) (f : Sf) : List PyData → En → Option (Out × En)
  | [], e => some (.nx, e)
  | d :: ds, e => (g d e).bind fun e1 => (f e1).bind fun p => match p.1 with
    | .nx => forL g f ds p.2
    | .ct => forL g f ds p.2
    | .bk => some (.nx, p.2)
    | .rt r => some (.rt r, p.2)
def sFor (it : Lf) (g : Gf) (f : Sf) : Sf := fun e => (it e).bind fun p => forL g f p.1 p.2
def whL (c : Bf) (f : Sf) : Nat → En → Option (Out × En)
  | 0, _ => none
  | k + 1, e => (c e).bind fun p => if p.1 = true then (f p.2).bind fun q => match q.1 with
    | .nx => whL c f k q.2
    | .ct => whL c f k q.2
    | .bk => some (.nx, q.2)
    | .rt r => some (.rt r, q.2) else some (.nx, p.2)
def sWh (fuel : Nat) (c : Bf) (f : Sf) : Sf := fun e => whL c f fuel e

section
variable {K : PySem.W.Frag} {M : Mk} {G H G1 H1 : Hp} {m m1 m2 mn : List Ty} {σ σ1 : St} {e : En} {A A1 : List Addr} {D : Ends} {e' : En} {o : Out} {t u : TS} {f g : Sf} {ef : Ef} {bf : Bf} {lf : Lf}
theorem Fin.back (s : Step A G H A1 G1 H1) (p : Pin M.po σ σ1) (h : Fin K M mn A G H σ D e' o) : Fin K M mn A1 G1 H1 σ1 D e' o := by
  cases o with
  | nx => exact fun G' H' σ' A' s' st' p' => h G' H' σ' A' (s.seq0 s') st' (p.trans p')
  | bk => exact fun G' H' σ' A' s' st' p' => h G' H' σ' A' (s.seq0 s') st' (p.trans p')
  | ct => exact fun G' H' σ' A' s' st' p' => h G' H' σ' A' (s.seq0 s') st' (p.trans p')
  | rt d => exact fun G' H' σ' v Av A' s' st' o' nd p' => h G' H' σ' v Av A' (s.seq0 s') st' o' nd (p.trans p')
/-- a value kept aside while a mask is weakened -/
theorem le_aside {v : V} {Av : List Addr} {ty : Ty} {d : PyData} (l : LeM m m1) (s : Step A G H (Av ++ A1) G1 H1) (st : Stt K m G1 H1 σ e A1) (ov : Own K G1 H1 ty d (some v) Av) (nd : (Av ++ A1).Nodup) :
    ∃ G2 A2, Step A G H (Av ++ A2) G2 H1 ∧ Stt K m1 G2 H1 σ e A2 ∧ Own K G2 H1 ty d (some v) Av ∧ (Av ++ A2).Nodup := by
  obtain ⟨G2, A2, s2, st2⟩ := stt_le l st
  obtain ⟨s3, nd3, hg, hh⟩ := s.seq (own_at ov) nd s2 st2.nd
  exact ⟨G2, A2, s3, st2, own_fr ov s2.sg hg fun _ _ => rfl, nd3⟩
theorem DS.le (h : DS K M m t f m1) (l : LeM m1 mn) : DS K M m t f mn := by
  intro G H σ e A o e' D st hf k
  refine h st hf ?_
  cases o with
  | nx =>
    intro G' H' σ' A' s' st' p'
    obtain ⟨G2, A2, s2, st2⟩ := stt_le l st'
    exact k G2 H' σ' A2 (s'.seq0 s2) st2 p'
  | bk => exact k
  | ct => exact k
  | rt d => exact k
theorem DS.seq (h1 : DS K M m t f m1) (h2 : DS K M m1 u g mn) : DS K M m (tSeq t u) (sSeq f g) mn := by
  intro G H σ e A o e' D st hf k
  obtain ⟨⟨o1, e1⟩, hf1, hf⟩ := Option.bind_eq_some_iff.mp hf
  refine h1 st hf1 ?_
  cases o1 with
  | nx => exact fun G' H' σ' A' s' st' p' => h2 st' hf (k.back s' p')
  | bk => cases hf; exact k
  | ct => cases hf; exact k
  | rt d => cases hf; exact k
theorem DS.nil : DS K M m tNext sNil m := fun st hf k => by cases hf; exact k _ _ _ _ Step.refl st Pin.refl
theorem DS.ite {tc : TT} (hc : DT K m tc bf m1) (h1 : DS K M m1 t f mn) (h2 : DS K M m1 u g mn) : DS K M m (tIfS tc t u) (sIf bf f g) mn := by
  intro G H σ e A o e' D st hf k
  obtain ⟨⟨b, e1⟩, hf1, hf⟩ := Option.bind_eq_some_iff.mp hf
  refine hc st hf1 fun G1 H1 A1 s1 st1 => ?_
  cases b with
  | true => exact h1 st1 hf (k.back s1 Pin.refl)
  | false => exact h2 st1 hf (k.back s1 Pin.refl)
theorem DS.ret {te : TE} (he : DE K m te M.ty ef m1) (l : LeM m1 M.r) : DS K M m (tRet te) (sRet ef) mn := by
  intro G H σ e A o e' D st hf k
  obtain ⟨⟨d, e1⟩, hf1, hf⟩ := Option.map_eq_some_iff.mp hf
  cases hf
  refine he st hf1 fun G1 H1 v Av A1 s1 st1 o1 nd1 => ?_
  obtain ⟨G2, A2, s2, st2, o2, nd2⟩ := le_aside l s1 st1 o1 nd1
  exact k G2 H1 σ v Av A2 s2 st2 o2 nd2 Pin.refl
theorem DS.brk (l : LeM m M.b) : DS K M m tBreak sBrk mn := by
  intro G H σ e A o e' D st hf k
  cases hf
  obtain ⟨G2, A2, s2, st2⟩ := stt_le l st
  exact k G2 H σ A2 s2 st2 Pin.refl
theorem DS.cnt (l : LeM m M.c) : DS K M m tCont sCnt mn := by
  intro G H σ e A o e' D st hf k
  cases hf
  obtain ⟨G2, A2, s2, st2⟩ := stt_le l st
  exact k G2 H σ A2 s2 st2 Pin.refl
theorem DS.drop {te : TE} {ty : Ty} (he : DE K m te ty ef m1) : DS K M m (tDrop te) (sDrop ef) m1 := by
  intro G H σ e A o e' D st hf k
  obtain ⟨⟨d, e1⟩, hf1, hf⟩ := Option.map_eq_some_iff.mp hf
  cases hf
  exact he st hf1 fun G1 H1 v Av A1 s1 st1 o1 nd1 => k G1 H1 σ A1 (s1.less fun a h => List.mem_append_right _ h) st1 Pin.refl
theorem DS.asg {te : TE} {ty : Ty} {j : Nat} (he : DE K m te ty ef m1) (hj : j < m1.length) (hp : j ∉ M.po) : DS K M m (tAsg te (gName j)) (sAsg j ef) (m1.set j ty) := by
  intro G H σ e A o e' D st hf k
  obtain ⟨⟨d, e1⟩, hf1, hf⟩ := Option.map_eq_some_iff.mp hf
  cases hf
  refine he st hf1 fun G1 H1 v Av A1 s1 st1 o1 nd1 => ?_
  obtain ⟨A2, st2, hA⟩ := stt_set st1 hj o1 nd1
  exact k G1 H1 _ A2 (s1.less hA) st2 (Pin.set hp)
theorem DS.tg {te : TE} {tg : TG} {gf : Gf} {sl : List Nat} (he : DE K m te .s ef m1) (hg : DG K false m1 tg sl gf m2) (hp : ∀ j ∈ M.po, j ∉ sl) : DS K M m (tAsg te tg) (sTg ef gf) m2 := by
  intro G H σ e A o e' D st hf k
  obtain ⟨⟨d, e1⟩, hf1, hf⟩ := Option.bind_eq_some_iff.mp hf
  obtain ⟨e2, hf2, hf⟩ := Option.map_eq_some_iff.mp hf
  cases hf
  refine he st hf1 fun G1 H1 v Av A1 s1 st1 o1 nd1 => ?_
  cases o1 with
  | s q1 => exact hg st1 (.inl q1) hf2 fun G2 H2 σ2 A2 s2 st2 hs hl => k G2 H2 σ2 A2 (s1.seq0 s2) st2 fun j hj => hs j (hp j hj)
theorem DS.par {ta : TA} {i j : Nat} (ha : DA K m ta [.s, .s] lf m1) (hi : i < m1.length) (hj : j < m1.length) (pi : i ∉ M.po) (pj : j ∉ M.po) : DS K M m (tPar i j ta) (sPar i j lf) ((m1.set i .s).set j .s) := by
  intro G H σ e A o e' D st hf k
  obtain ⟨⟨ds, e1⟩, hf1, hf⟩ := Option.bind_eq_some_iff.mp hf
  refine ha st hf1 fun G1 H1 vs Av A1 s1 st1 o1 nd1 => ?_
  obtain ⟨rfl, q⟩ := of_ownA (n := 2) o1
  match ds, hf, q with
  | [x, y], hf, q =>
    cases hf
    match vs, q with
    | [v, w], q =>
      have qv := q.head
      have qw := q.tail.head
      obtain ⟨A2, st2, hA2⟩ := stt_set st1 hi (.s qv) (Av := []) st1.nd
      obtain ⟨A3, st3, hA3⟩ := stt_set st2 (by rw [List.length_set]; exact hj) (.s qw) (Av := []) st2.nd
      exact ⟨v, w, rfl, k G1 H1 _ A3 (s1.less fun a h => hA2 a (hA3 a h)) st3 ((Pin.set pi).trans (Pin.set pj))⟩
theorem DS.for {wk : Bool} {wi : TI} {tg : TG} {gf : Gf} {sl : List Nat} {ml : List Ty} (hi : DI K wk m wi lf m1) (l1 : LeM m1 ml) (hg : DG K wk ml tg sl gf m2) (hb : DS K { M with b := mn, c := ml } m2 t f ml) (l2 : LeM ml mn) (hp : ∀ j ∈ M.po, j ∉ sl) :
    DS K M m (tFor wi tg t) (sFor lf gf f) mn := by
  intro G H σ e A o e' D st hf k
  obtain ⟨⟨ds, e1⟩, hf1, hf⟩ := Option.bind_eq_some_iff.mp hf
  refine hi st hf1 fun G1 H1 A1 J s1 st1 wk hz => ?_
  obtain ⟨G2, A2, s2, st2⟩ := stt_le l1 st1
  let T := fun (i : Nat) (σc : St) (Hc : Hp) => ∃ Gc ec A', Step A G H A' Gc Hc ∧ Same G1 Gc ∧ Stt K ml Gc Hc σc ec A' ∧ Pin M.po σ σc ∧ forL gf f (ds.drop i) ec = some (o, e')
  refine ⟨fun i mm σc Hc => mm = ds.length - i ∧ i ≤ ds.length ∧ T i σc Hc, ⟨ds.length, by omega, Nat.zero_le _, G2, e1, A2, s1.seq0 s2, s2.sg, st2, Pin.refl, hf⟩, ?_⟩
  rintro i mm σc Hc ⟨rfl, hle, Gc, ec, A', sc, sg, stc, pc, hl⟩
  have sub1 : Same G1 Hc := sg.trans stc.sub
  by_cases hi : i < ds.length
  · refine .inr ⟨wk.goes i Hc hi sub1, fun σn Hn => i < ds.length ∧ T (i + 1) σn Hn, fun σn Hn hn => ⟨ds.length - (i + 1), by omega, rfl, by omega, hn.2⟩, fun x Hy hy => ?_⟩
    obtain ⟨Gy, sy, sty, sgy, qy⟩ := wk.yields hi sg stc hy
    have hd : ds.drop i = ds[i] :: ds.drop (i + 1) := List.drop_eq_getElem_cons hi
    rw [hd] at hl
    unfold forL at hl
    obtain ⟨e2, hl1, hl⟩ := Option.bind_eq_some_iff.mp hl
    obtain ⟨⟨o3, e3⟩, hl2, hl⟩ := Option.bind_eq_some_iff.mp hl
    refine hg sty (qy _ (List.getElem?_eq_getElem hi)) hl1 fun G3 H3 σ3 A3 s3 st3 k3 l3 => ?_
    have p3 : Pin M.po σ σ3 := pc.trans fun j hj => k3 j (hp j hj)
    have s03 := (sc.seq0 sy).seq0 s3
    refine hb st3 hl2 ?_
    cases o3 with
    | nx => exact fun G4 H4 σ4 A4 s4 st4 p4 => ⟨hi, G4, e3, A4, s03.seq0 s4, ((sg.trans sgy).trans s3.sg).trans s4.sg, st4, p3.trans p4, hl⟩
    | ct => exact fun G4 H4 σ4 A4 s4 st4 p4 => ⟨hi, G4, e3, A4, s03.seq0 s4, ((sg.trans sgy).trans s3.sg).trans s4.sg, st4, p3.trans p4, hl⟩
    | bk => cases hl; exact fun G4 H4 σ4 A4 s4 st4 p4 => k G4 H4 σ4 A4 (s03.seq0 s4) st4 (p3.trans p4)
    | rt r => cases hl; exact fun G4 H4 σ4 v Av A4 s4 st4 o4 nd4 p4 => k G4 H4 σ4 v Av A4 (s03.seq0 s4) st4 o4 nd4 (p3.trans p4)
  · have hie : i = ds.length := by omega
    subst hie
    rw [List.drop_length] at hl
    cases hl
    obtain ⟨G4, A4, s4, st4⟩ := stt_le l2 stc
    exact .inl ⟨wk.stops Hc sub1, k G4 Hc σc A4 (sc.seq0 s4) st4 pc⟩
theorem DS.wh {tc : TT} {ml : List Ty} {fuel : Nat} (l0 : LeM m ml) (hc : DT K ml tc bf m1) (hb : DS K { M with b := mn, c := ml } m1 t f ml) (l2 : LeM m1 mn) : DS K M m (tWhile tc t) (sWh fuel bf f) mn := by
  intro G H σ e A o e' D st hf k
  obtain ⟨G2, A2, s2, st2⟩ := stt_le l0 st
  refine ⟨fun i σc Hc => ∃ Gc ec A', Step A G H A' Gc Hc ∧ Stt K ml Gc Hc σc ec A' ∧ Pin M.po σ σc ∧ whL bf f i ec = some (o, e'), ⟨fuel, G2, e, A2, s2, st2, Pin.refl, hf⟩, ?_⟩
  rintro i σc Hc ⟨Gc, ec, A', sc, stc, pc, hl⟩
  cases i with
  | zero => cases hl
  | succ i =>
    unfold whL at hl
    obtain ⟨⟨b, e2⟩, hl1, hl⟩ := Option.bind_eq_some_iff.mp hl
    refine hc stc hl1 fun G3 H3 A3 s3 st3 => ?_
    cases b with
    | true =>
      rw [if_pos rfl] at hl ⊢
      obtain ⟨⟨o3, e3⟩, hl2, hl⟩ := Option.bind_eq_some_iff.mp hl
      refine ⟨fun σn Hn => ∃ Gc ec A', Step A G H A' Gc Hn ∧ Stt K ml Gc Hn σn ec A' ∧ Pin M.po σ σn ∧ whL bf f i ec = some (o, e'), fun σn Hn hn => ⟨i, Nat.lt_succ_self i, hn⟩, hb st3 hl2 ?_⟩
      have s03 := sc.seq0 s3
      cases o3 with
      | nx => exact fun G4 H4 σ4 A4 s4 st4 p4 => ⟨G4, e3, A4, s03.seq0 s4, st4, pc.trans p4, hl⟩
      | ct => exact fun G4 H4 σ4 A4 s4 st4 p4 => ⟨G4, e3, A4, s03.seq0 s4, st4, pc.trans p4, hl⟩
      | bk => cases hl; exact fun G4 H4 σ4 A4 s4 st4 p4 => k G4 H4 σ4 A4 (s03.seq0 s4) st4 (pc.trans p4)
      | rt r => cases hl; exact fun G4 H4 σ4 v Av A4 s4 st4 o4 nd4 p4 => k G4 H4 σ4 v Av A4 (s03.seq0 s4) st4 o4 nd4 (pc.trans p4)
    | false =>
      rw [if_neg (by simp)] at hl ⊢
      cases hl
      obtain ⟨G4, A4, s4, st4⟩ := stt_le l2 st3
      exact k G4 H3 σc A4 ((sc.seq0 s3).seq0 s4) st4 pc
end

section
variable {ι : Type} {Xf : ι → Cx} {P : Program} {w : World} {K : PySem.W.Frag} {mg : Str → Option Value} {base : Heap} {n : Nat} [F : Fam Xf P w K mg base n]
variable {M : Mk} {m m1 m2 mn ml : List Ty} {pos p p2 spos : Pos} {a b c v tg iter : Expr} {st : Stmt} {rest body orelse : List Stmt} {f g : Sf} {ef : Ef} {bf : Bf} {lf : Lf} {gf : Gf} {sl : List Nat} {ty : Ty}
theorem ss_nil : PSsd Xf K M m [] sNil m := ⟨_, fun i => pss_nil, DS.nil⟩
theorem ss_cons (h1 : PSd Xf K M m st f m1) (h2 : PSsd Xf K M m1 rest g mn) : PSsd Xf K M m (st :: rest) (sSeq f g) mn := by
  obtain ⟨t, p, d⟩ := h1.ex
  obtain ⟨u, q, d2⟩ := h2.ex
  exact ⟨_, fun i => pss_cons (p i) (q i), DS.seq d d2⟩
theorem ss_one (h1 : PSd Xf K M m st f m1) : PSsd Xf K M m [st] f m1 := by
  obtain ⟨t, p, d⟩ := h1.ex
  exact ⟨_, fun i => pss_one (p i), d⟩
theorem ss_le (h : PSsd Xf K M m rest f m1) (l : LeM m1 mn) : PSsd Xf K M m rest f mn := by
  obtain ⟨t, p, d⟩ := h.ex
  exact ⟨_, p, d.le l⟩
theorem ds_ret (he : PD Xf K m v M.ty ef m1) (l : LeM m1 M.r) : PSd Xf K M m (.Return (some v) pos) (sRet ef) mn := by
  obtain ⟨t, p, d⟩ := he.ex
  exact ⟨_, fun i => ps_ret (p i), DS.ret d l⟩
theorem ds_if (hc : PB Xf K m c bf m1) (ha : PSsd Xf K M m1 body f mn) (hb : PSsd Xf K M m1 orelse g mn) : PSd Xf K M m (.If c body orelse pos) (sIf bf f g) mn := by
  obtain ⟨t, p, d⟩ := hc.ex
  obtain ⟨t1, p1, d1⟩ := ha.ex
  obtain ⟨t2, p2, d2⟩ := hb.ex
  exact ⟨_, fun i => ps_if (p i) (p1 i) (p2 i), DS.ite d d1 d2⟩
theorem ds_drop (he : PD Xf K m v ty ef m1) (hs : ∀ i, swapsWith v none pos.line (Xf i).env = pure false := by intro _; rfl) : PSd Xf K M m (.Expr v pos) (sDrop ef) m1 := by
  obtain ⟨t, p, d⟩ := he.ex
  exact ⟨_, fun i => ps_expr (p i) (hs i), DS.drop d⟩
include F in
theorem ds_asg (j : Nat) {x : Str} {pos' : Pos} (he : PD Xf K m v ty ef m1) (hj : j < m1.length := by first | decide | rfl | simp) (hp : j ∉ M.po := by first | decide | rfl | simp) (hi : ∀ i, (Xf i).N[j]? = some x := by intro _; rfl) (hx : ∀ i, Loc (Xf i).env.scope x := by first | (intro _; exact Or.inl rfl) | (intro _; exact Or.inr rfl))
    (hs : ∀ i, swapsWith v (some (.Name x pos')) pos.line (Xf i).env = pure false := by intro _; rfl) (hf : ∀ i, (Xf i).fn x = true ∨ (Xf i).env.scope.names.lookup x = some .local := by first | (intro _; exact Or.inl rfl) | (intro _; exact Or.inr rfl)) :
    PSd Xf K M m (.Assign [.Name x pos'] v pos) (sAsg j ef) (m1.set j ty) := by
  obtain ⟨t, p, d⟩ := he.ex
  exact ⟨_, fun i => ps_set (F.nd i) (hi i) (hx i) (p i) (hs i) (hf i), DS.asg d hj hp⟩
theorem ds_tg (he : PD Xf K m v .s ef m1) (hg : PGD Xf K false m1 tg sl gf m2) (hp : ∀ j ∈ M.po, j ∉ sl := by first | decide | rfl | simp) (hs : ∀ i, swapsWithSole [tg] v pos.line (Xf i).env = pure false := by intro _; rfl) (hw : ∀ i, swappedStores [tg] v (Xf i).env = pure none := by intro _; rfl)
    (h1 : ∀ i, (assignEach [tg] (Xf i).env).map (·.2) = [assign tg (Xf i).env] := by intro _; rfl) : PSd Xf K M m (.Assign [tg] v pos) (sTg ef gf) m2 := by
  obtain ⟨t, p, d⟩ := he.ex
  obtain ⟨t2, p2, d2⟩ := hg.ex
  exact ⟨_, fun i => ps_asg (p i) (p2 i) (hs i) (hw i) (h1 i), DS.tg d d2 hp⟩
include F in
theorem ds_par [FG : FamG Xf] (i j : Nat) {L : List (Option Nat)} {x y : Str} {px py pt pt2 : Pos} {kt k2} (ha : PAL Xf K m [a, b] [.s, .s] L lf m1) (hi : i < m1.length := by first | decide | rfl | simp) (hj : j < m1.length := by first | decide | rfl | simp) (pi : i ∉ M.po := by first | decide | rfl | simp) (pj : j ∉ M.po := by first | decide | rfl | simp) (hij : i ≠ j := by decide)
    (ni : ∀ z, (Xf z).N[i]? = some x := by intro _; rfl) (nj : ∀ z, (Xf z).N[j]? = some y := by intro _; rfl) (hx : ∀ z, (Xf z).env.scope.names.lookup x = some .local := by intro _; rfl) (hy : ∀ z, (Xf z).env.scope.names.lookup y = some .local := by intro _; rfl)
    (hw : ∀ z, swappedStores [.Tuple [.Name x px, .Name y py] kt pt] (.Tuple [a, b] k2 pt2) (Xf z).env = pure (some [x, y]) := by intro _; rfl) (hs : ∀ z, swapsWithSole [.Tuple [.Name x px, .Name y py] kt pt] (.Tuple [a, b] k2 pt2) pos.line (Xf z).env = pure false := by intro _; rfl) :
    PSd Xf K M m (.Assign [.Tuple [.Name x px, .Name y py] kt pt] (.Tuple [a, b] k2 pt2) pos) (sPar i j lf) ((m1.set i .s).set j .s) := by
  obtain ⟨t, p, d⟩ := ha.ex
  exact ⟨_, fun z => ps_par (FG.calm z) (F.nd z) (ni z) (nj z) hij (hx z) (hy z) (p z) (hw z) (hs z), DS.par (fun st hf k => d st hf fun G' H' vs Av A' s st' o nd _ => k G' H' vs Av A' s st' o nd) hi hj pi pj⟩
include F in
theorem ds_for [FG : FamG Xf] {wk : Bool} [FN : FamN Xf] (ml : List Ty) (hi : PIt Xf K wk m tg iter lf m1) (l1 : LeM m1 ml) (hg : PGD Xf K wk ml tg sl gf m2) (hb : PSsd Xf K { M with b := mn, c := ml } m2 body f ml) (l2 : LeM ml mn) (hp : ∀ j ∈ M.po, j ∉ sl := by first | decide | rfl | simp)
    (hs : ∀ i x, foldedSetIterable iter (Xf i).env x = pure x := by intro _ _; rfl) : PSd Xf K M m (.For tg iter body [] pos) (sFor lf gf f) mn := by
  obtain ⟨wi, pi, di⟩ := hi.ex
  obtain ⟨g, pg, dg⟩ := hg.ex
  obtain ⟨t, p, d⟩ := hb.ex
  exact ⟨_, fun i => ps_for (FN.ps i) (FG.calm i) (pi i) (pg i) (p i) (hs i), DS.for di l1 dg d l2 hp⟩
theorem ds_wh [FN : FamN Xf] (fuel : Nat) (ml : List Ty) (l0 : LeM m ml) (hc : PB Xf K ml c bf m1) (hb : PSsd Xf K { M with b := mn, c := ml } m1 body f ml) (l2 : LeM m1 mn) : PSd Xf K M m (.While c body [] pos) (sWh fuel bf f) mn := by
  obtain ⟨t, p, d⟩ := hc.ex
  obtain ⟨t2, p2, d2⟩ := hb.ex
  exact ⟨_, fun i => ps_while (FN.ps i) (p i) (p2 i), DS.wh l0 d d2 l2⟩
include F in
/-- name = [.. for ..] on one line -/
theorem ds_setLc [FG : FamG Xf] {wk : Bool} (j : Nat) {x : Str} {py : Pos} {elt : Expr} {ifs : List Expr} {scope : Scope} {tf : Bf} (own : List (Str × Nat)) (hi : PIt Xf K wk m tg iter lf m1) (hg : PGD (blkF Xf scope) K wk (hideM m1 (own.map (·.2))) tg sl gf m2) (ht : PTsD (blkF Xf scope) K m2 ifs tf) (he : PD (blkF Xf scope) K m2 elt ty ef m2)
    (ok : ∀ i, BlkOk (Xf i).N (Xf i).env.scope scope own := by intro _; exact blkOk_by (by rfl)) (us : usB m1 (own.map (·.2)) = true := by rfl) (hs : ∀ j ∈ sl, j ∈ own.map (·.2) := by decide) (le : LeM m2 (hideM m1 (own.map (·.2))) := by repeat (first | exact .nil | refine .cons (by first | exact .rfl _ | exact .u _) ?_))
    (hj : j < m1.length := by first | decide | rfl | simp) (hp : j ∉ M.po := by first | decide | rfl | simp) (hN : ∀ i, (Xf i).N[j]? = some x := by intro _; rfl) (hyl : ∀ i, (Xf i).env.scope.names.lookup x = some .local := by intro _; rfl)
    (hsw : ∀ i, swapsWith (.ListComp elt [⟨tg, iter, ifs, 0⟩] scope pos) (some (.Name x py)) spos.line (Xf i).env = pure true := by intro _; exact sw_true rfl rfl (by rfl) (by rfl))
    (hf : ∀ i x, foldedSetIterable iter (Xf i).env x = pure x := by intro _ _; rfl) : PSd Xf K M m (.Assign [.Name x py] (.ListComp elt [⟨tg, iter, ifs, 0⟩] scope pos) spos) (sAsg j (eLc lf (own.map (·.2)) gf tf ef)) (m1.set j (.l ty)) := by
  obtain ⟨wi, pi, di⟩ := hi.ex
  obtain ⟨g, pg, dg⟩ := hg.ex
  obtain ⟨tt, pt, dt⟩ := ht.ex
  obtain ⟨te, pe, de⟩ := he.ex
  exact ⟨_, fun i => ps_setLc (FG.calm i) (F.nd i) (hN i) (hyl i) (hsw i) (pi i) (ok i) (fun s H C cl fp => pg ⟨i, s, H, C, cl, fp⟩) (fun s H C cl fp => pt ⟨i, s, H, C, cl, fp⟩) (fun s H C cl fp => pe ⟨i, s, H, C, cl, fp⟩) (hf i), DS.asg (DE.lc di dg dt de us hs le) hj hp⟩
end
end DL

namespace DL
open PySem L2 PySem.Spec

/-! ### owned lists written -/
def eApp (j : Nat) (f : Ef) : Ef := fun e => (f e).bind fun p => match e.getD j .none with
  | .list ds => if ds.length < sizeLine then some (.none, p.2.set j (.list (ds ++ [p.1]))) else none
  | _ => none
def eAppV (g : Gq) (pt : Pf) (gv : Gq) : Ef := fun e => (g e).bind fun d => (gv e).bind fun x => match d with
  | .list ds => if ds.length < sizeLine then some (.none, pt e (.list (ds ++ [x]))) else none
  | _ => none
def ePop (g : Gq) (pt : Pf) : Ef := fun e => (g e).bind fun d => match d with
  | .list ds => (ds[ds.length - 1]?).map fun x => (x, pt e (.list ds.dropLast))
  | _ => none
def ePopAt (g : Gq) (pt : Pf) (gi : Gq) : Ef := fun e => (g e).bind fun d => (gi e).bind fun i => match d, i with
  | .list ds, .int k => if -(2 ^ 63) ≤ k ∧ k < 2 ^ 63 then (ixN ds.length k).bind fun j => (ds[j]?).map fun x => (x, pt e (.list (ds.eraseIdx j))) else none
  | _, _ => none
def sSet (g : Gq) (pt : Pf) (gi : Gq) (f : Ef) : Sf := fun e => (f e).bind fun p => (g p.2).bind fun d => (gi p.2).bind fun i => match d, i with
  | .list ds, .int k => (ixN ds.length k).map fun j => (.nx, pt p.2 (.list (ds.set j p.1)))
  | _, _ => none
def eItm (g gi : Gq) : Ef := fun e => (g e).bind fun d => (gi e).bind fun i => (itemD d i).map fun x => (x, e)

theorem ite_some2 {α : Type} {c : Prop} [Decidable c] {a : Option α} {b : α} (h : (if c then a else none) = some b) : c ∧ a = some b := by
  split at h
  · rename_i hc; exact ⟨hc, h⟩
  · cases h
section
variable {K : PySem.W.Frag} {G H G1 H1 : Hp} {m m1 m2 mn : List Ty} {σ : St} {e : En} {A A1 : List Addr} {t : Ty} {ts : List Ty}
theorem ownA_erase {ds : List PyData} {vs : List (Option V)} {t : Ty} : ∀ {n : Nat} {ds : List PyData} {vs : List (Option V)} {A : List Addr} {j : Nat} {d : PyData}, OwnA K G H (List.replicate n t) ds vs A → ds[j]? = some d →
    ∃ v Aj A0, vs[j]? = some v ∧ Own K G H t d v Aj ∧ OwnA K G H (List.replicate (n - 1) t) (ds.eraseIdx j) (vs.eraseIdx j) A0 ∧ A.Perm (Aj ++ A0)
  | 0, _, _, _, j, d, h, hd => by cases h; simp at hd
  | n + 1, _, _, _, j, d, h, hd => by
    cases h with
    | @cons _ _ d0 ds v0 vs A B h1 h2 =>
      cases j with
      | zero =>
        simp at hd; subst hd
        exact ⟨v0, A, B, rfl, h1, by simpa using h2, List.Perm.refl _⟩
      | succ j =>
        have hd : ds[j]? = some d := by simpa using hd
        obtain ⟨v, Aj, A0, e1, o1, o2, p⟩ := ownA_erase (ds := ds) (vs := vs) h2 hd
        have hn : 0 < n := by
          have a := (ownA_len h2).1
          rw [List.length_replicate] at a
          have := (List.getElem?_eq_some_iff.mp hd).1
          omega
        refine ⟨v, Aj, A ++ A0, by simpa using e1, o1, ?_, ?_⟩
        · have := OwnA.cons h1 o2
          rw [← List.replicate_succ, show n - 1 + 1 = n by omega] at this
          simpa using this
        · exact (List.Perm.append_left A p).trans (by rw [← List.append_assoc, ← List.append_assoc]; exact List.Perm.append_right _ List.perm_append_comm)
theorem replicate_snoc {n : Nat} {t : Ty} : List.replicate n t ++ [t] = List.replicate (n + 1) t := by rw [List.replicate_succ']
theorem DE.app {te : TE} {f : Ef} {j : Nat} (hm : m[j]? = some (.l t)) (he : DE K (m.set j .u) te t f m1) (hm1 : m1[j]? = some .u) : DE K m (tBM K "list" rAppend (tVar j) (tCons te tNil)) .s (eApp j f) (m1.set j (.l t)) := by
  intro G H σ e A d e' Q st hf k
  obtain ⟨⟨dx, e1⟩, hf1, hf⟩ := Option.bind_eq_some_iff.mp hf
  obtain ⟨dj, vj, Aj, A0, h1, h2, h3, h4, hp⟩ := ownA_take st.own hm
  have nd := hp.nodup_iff.mp st.nd
  have st0 : Stt K (m.set j .u) G H σ e A0 := ⟨h4, (List.nodup_append.mp nd).2.1, st.sub⟩
  cases h3 with
  | @l _ a vs ds Ai ga ha hz oi =>
    have ed : e.getD j .none = .list ds := by rw [List.getD_eq_getElem?_getD, h1]; rfl
    rw [ed] at hf
    obtain ⟨hlt, hf⟩ := ite_some hf
    cases hf
    refine ⟨.ref a, h2, .inl ⟨rfl, _, .inl (.inl ha)⟩, ?_⟩
    refine he st0 hf1 fun G1 H1 x Av A1 s1 st1 ov ndv => ?_
    have s0 : Step A G H ((a :: Ai) ++ A0) G H := ⟨Same.refl G, fun _ _ h _ => h, fun b hb => .inl (hp.mem_iff.mpr hb), fun b h ⟨o, z⟩ => by rw [h] at z; cases z⟩
    have oj : Own K G H (.l t) (.list ds) (some (.ref a)) (a :: Ai) := .l ga ha hz oi
    obtain ⟨s2, nd2, hg, hh⟩ := s0.seq (own_at oj) nd s1 ndv
    have ha1 : H1 a = some (.lst vs) := by rw [hh a (List.mem_cons_self ..)]; exact ha
    have ga1 : G1 a = none := hg a (List.mem_cons_self ..)
    have oi1 := ownA_fr oi s1.sg (fun b hb => hg b (List.mem_cons_of_mem _ hb)) fun b hb => hh b (List.mem_cons_of_mem _ hb)
    have len : vs.length = ds.length := by have := (ownA_len oi).2; simpa using this
    refine ⟨a, vs, x, rfl, rfl, ha1, by omega, ?_⟩
    have nda : a ∉ Ai ++ (Av ++ A1) := by
      have := nd2
      rw [List.cons_append] at this
      exact (List.nodup_cons.mp this).1
    have fr : ∀ b, b ≠ a → upd H1 a (.lst (vs ++ [x])) b = H1 b := fun b hb => upd_ne hb
    have ne : ∀ b ∈ Ai ++ (Av ++ A1), b ≠ a := fun b hb z => nda (z ▸ hb)
    have i1 := ownA_fr (H' := upd H1 a (.lst (vs ++ [x]))) oi1 (Same.refl G1) (fun b hb => (ownA_at oi1 b hb).1) fun b hb => fr b (ne b (List.mem_append_left _ hb))
    have i2 := own_fr (H' := upd H1 a (.lst (vs ++ [x]))) ov (Same.refl G1) (fun b hb => (own_at ov b hb).1) fun b hb => fr b (ne b (List.mem_append_right _ (List.mem_append_left _ hb)))
    have i3 := ownA_snoc i1 i2
    rw [replicate_snoc] at i3
    have oN : Own K G1 (upd H1 a (.lst (vs ++ [x]))) (.l t) (.list (ds ++ [dx])) (some (.ref a)) (a :: (Ai ++ Av)) := .l ga1 upd_same (by rw [List.length_append, List.length_singleton]; omega) (by rw [List.length_append, List.length_singleton, List.map_append]; exact i3)
    have i4 := ownA_fr (H' := upd H1 a (.lst (vs ++ [x]))) st1.own (Same.refl G1) (fun b hb => (ownA_at st1.own b hb).1) fun b hb => fr b (ne b (List.mem_append_right _ (List.mem_append_right _ hb)))
    obtain ⟨A2, o2, p2⟩ := ownA_put i4 hm1 oN
    rw [set_id (l := σ) h2] at o2
    have pA : A2.Perm ((a :: Ai) ++ (Av ++ A1)) := p2.trans (List.perm_iff_count.mpr fun z => by simp only [List.count_append, List.count_cons, List.cons_append]; omega)
    refine k G1 _ .non [] A2 ⟨s2.sg, fun b o hb hbA => ?_, fun b hb => s2.own b (pA.mem_iff.mp hb), s2.gnew⟩ ⟨o2, pA.nodup_iff.mpr nd2, fun b o hb => ?_⟩ (.s .non) (pA.nodup_iff.mpr nd2)
    · rw [fr b (fun z => hbA (z ▸ hp.mem_iff.mpr (List.mem_append_left _ (List.mem_cons_self ..))))]
      exact s2.fr b o hb hbA
    · rw [fr b (ne_of_none hb ga1)]; exact st1.sub b o hb

/-- a list at a place is rewritten at a -/
theorem pl_wrote {a : Addr} {Ad Ar Ad' : List Addr} {pt : Pf} {ty : Ty} {d d' : PyData} {H2 : Hp} {u : HO} (st : Stt K m G H σ e A) (hp : A.Perm (Ad ++ Ar)) (o1 : Own K G H ty d (some (.ref a)) Ad)
    (back : ∀ {G' H' : Hp} {d' : PyData} {Ad' : List Addr}, Same G G' → Own K G' H' ty d' (some (.ref a)) Ad' → (∀ b ∈ Ar, H' b = H b ∧ G' b = none) → ∃ A', OwnA K G' H' m (pt e d') σ A' ∧ A'.Perm (Ad' ++ Ar))
    (s : Same H H2) (hin : a ∈ Ad) (o2 : Own K G (upd H2 a u) ty d' (some (.ref a)) Ad') (sub : ∀ b ∈ Ad', b ∈ Ad) (nd' : Ad'.Nodup) :
    ∃ A', Step A G H A' G (upd H2 a u) ∧ Stt K m G (upd H2 a u) σ (pt e d') A' ∧ ∀ b ∈ A', b ∈ Ad' ++ Ar := by
  have nd := hp.nodup_iff.mp st.nd
  have n := List.nodup_append.mp nd
  have ga : G a = none := (own_at o1 a hin).1
  have atA : ∀ b ∈ A, G b = none ∧ ∃ o, H b = some o := ownA_at st.own
  obtain ⟨A', oA, pA⟩ := back (Same.refl G) o2 fun b hb => by
    have hbA := hp.mem_iff.mpr (List.mem_append_right Ad hb)
    obtain ⟨gb, o, ho⟩ := atA b hbA
    refine ⟨?_, gb⟩
    rw [upd_ne (fun z => n.2.2 a hin b hb z.symm), s b o ho, ho]
  have ndA : A'.Nodup := pA.nodup_iff.mpr (List.nodup_append.mpr ⟨nd', n.2.1, fun x hx y hy z => n.2.2 x (sub x hx) y hy z⟩)
  have inA : ∀ b ∈ A', b ∈ A := fun b hb => hp.mem_iff.mpr ((List.mem_append.mp (pA.mem_iff.mp hb)).elim (fun z => List.mem_append_left _ (sub b z)) fun z => List.mem_append_right _ z)
  refine ⟨A', ⟨Same.refl G, fun b o hb hbA => ?_, fun b hb => .inl (inA b hb), fun b h1 ⟨o, h2⟩ => by rw [h1] at h2; cases h2⟩, ⟨oA, ndA, fun b o hb => ?_⟩, fun b hb => pA.mem_iff.mp hb⟩
  · have hne : b ≠ a := fun z => hbA (by rw [z]; exact hp.mem_iff.mpr (List.mem_append_left _ hin))
    rw [upd_ne hne]; exact s b o hb
  · rw [upd_ne (ne_of_none hb ga)]; exact s b o (st.sub b o hb)
theorem DE.pop {te : TE} {g : Gq} {pt : Pf} (hp : DPl K m te (.l t) g pt) : DE K m (tBM0 K "list" rPop te) t (ePop g pt) m := by
  intro G H σ e A d e' Q st hf k
  obtain ⟨dl, h1, hf⟩ := Option.bind_eq_some_iff.mp hf
  obtain ⟨a, Ad, Ar, hp1, o1, ev, back⟩ := hp st h1
  have o1' := o1
  cases o1 with
  | @l _ _ vs ds Ai ga ha hz oi =>
    obtain ⟨x, hx, hf⟩ := Option.map_eq_some_iff.mp hf
    cases hf
    have len : vs.length = ds.length := by have := (ownA_len oi).2; simpa using this
    obtain ⟨v, Aj, A0, e1, oj, o0, pj⟩ := ownA_erase (ds := ds) (vs := vs.map some) oi hx
    rw [List.getElem?_map] at e1
    obtain ⟨w, hw, e2⟩ := Option.map_eq_some_iff.mp e1
    subst e2
    refine ev fun H1 s1 => ⟨.inl ⟨rfl, _, .inl (.inl (s1 _ _ ha))⟩, a, vs, w, rfl, rfl, s1 _ _ ha, by rw [len]; exact hw, ?_⟩
    have nd := hp1.nodup_iff.mp st.nd
    have n := List.nodup_append.mp nd
    have n1 := List.nodup_cons.mp n.1
    have n2 := List.nodup_append.mp (pj.nodup_iff.mp n1.2)
    have inI : ∀ b, b ∈ Aj ++ A0 → b ∈ Ai := fun b hb => pj.mem_iff.mpr hb
    have hfr : ∀ b ∈ Ai, upd H1 a (.lst vs.dropLast) b = H b := fun b hb => by
      obtain ⟨_, o, ho⟩ := ownA_at oi b hb
      have hne : b ≠ a := fun z => n1.1 (by rw [← z]; exact hb)
      rw [upd_ne hne, s1 b o ho, ho]
    have gfr : ∀ b ∈ Ai, G b = none := fun b hb => (ownA_at oi b hb).1
    have hne : ds ≠ [] := fun z => by rw [z] at hx; simp at hx
    have edr : ds.eraseIdx (ds.length - 1) = ds.dropLast := by rw [List.eraseIdx_eq_take_drop_succ, show ds.length - 1 + 1 = ds.length by have := List.length_pos_iff.mpr hne; omega, List.drop_length, List.append_nil, ← List.dropLast_eq_take]
    have evr : (vs.map some).eraseIdx (ds.length - 1) = vs.dropLast.map some := by
      rw [← len, List.eraseIdx_eq_take_drop_succ]
      have : vs.length - 1 + 1 = vs.length := by have := List.length_pos_iff.mpr hne; omega
      rw [this, List.drop_eq_nil_of_le (by simp), List.append_nil, List.dropLast_eq_take, List.map_take]
    rw [edr, evr] at o0
    have oN : Own K G (upd H1 a (.lst vs.dropLast)) (.l t) (.list ds.dropLast) (some (.ref a)) (a :: A0) := .l ga upd_same (by rw [List.length_dropLast]; omega) (by
      rw [List.length_dropLast]
      exact ownA_fr o0 (Same.refl G) (fun b hb => gfr b (inI b (List.mem_append_right _ hb))) fun b hb => hfr b (inI b (List.mem_append_right _ hb)))
    obtain ⟨A2, s3, st3, inA⟩ := pl_wrote (u := .lst vs.dropLast) (Ad' := a :: A0) st hp1 o1' back s1 (List.mem_cons_self ..) oN (fun b hb => by
      rcases List.mem_cons.mp hb with z | z
      · rw [z]; exact List.mem_cons_self ..
      · exact List.mem_cons_of_mem _ (inI b (List.mem_append_right _ z))) (List.nodup_cons.mpr ⟨fun z => n1.1 (inI _ (List.mem_append_right _ z)), n2.2.1⟩)
    have oj2 := own_fr (H' := upd H1 a (.lst vs.dropLast)) oj (Same.refl G) (fun b hb => gfr b (inI b (List.mem_append_left _ hb))) fun b hb => hfr b (inI b (List.mem_append_left _ hb))
    refine k G _ w Aj A2 ⟨s3.sg, s3.fr, fun b hb => ?_, s3.gnew⟩ st3 oj2 ?_
    · rcases List.mem_append.mp hb with z | z
      · exact .inl (hp1.mem_iff.mpr (List.mem_append_left _ (List.mem_cons_of_mem _ (inI b (List.mem_append_left _ z)))))
      · exact s3.own b z
    · refine List.nodup_append.mpr ⟨n2.1, st3.nd, fun x hx y hy z => ?_⟩
      subst z
      rcases List.mem_append.mp (inA x hy) with q | q
      · rcases List.mem_cons.mp q with q | q
        · exact n1.1 (q ▸ inI x (List.mem_append_left _ hx))
        · exact n2.2.2 x hx x q rfl
      · exact n.2.2 x (List.mem_cons_of_mem _ (inI x (List.mem_append_left _ hx))) x q rfl
theorem DE.popAt {te ti : TE} {g gi : Gq} {pt : Pf} (hp : DPl K m te (.l t) g pt) (hi : DQv K m ti gi) : DE K m (tBM K "list" rPopAt te (tCons ti tNil)) t (ePopAt g pt gi) m := by
  intro G H σ e A d e' Q st hf k
  obtain ⟨dl, h1, hf⟩ := Option.bind_eq_some_iff.mp hf
  obtain ⟨di, h2, hf⟩ := Option.bind_eq_some_iff.mp hf
  obtain ⟨a, Ad, Ar, hp1, o1, ev, back⟩ := hp st h1
  have o1' := o1
  cases o1 with
  | @l _ _ vs ds Ai ga ha hz oi =>
    cases di with
    | int i =>
      obtain ⟨hr, hf⟩ := ite_some2 hf
      obtain ⟨j, hj, hf⟩ := Option.bind_eq_some_iff.mp hf
      obtain ⟨x, hx, hf⟩ := Option.map_eq_some_iff.mp hf
      cases hf
      have len : vs.length = ds.length := by have := (ownA_len oi).2; simpa using this
      obtain ⟨v, Aj, A0, e1, oj, o0, pj⟩ := ownA_erase (ds := ds) (vs := vs.map some) oi hx
      rw [List.getElem?_map] at e1
      obtain ⟨w, hw, e2⟩ := Option.map_eq_some_iff.mp e1
      subst e2
      refine ev fun H1 s1 => ⟨.inl ⟨rfl, _, .inl (.inl (s1 _ _ ha))⟩, hi (stt_grow st s1).2 h2 fun H2 y s2 qy => ?_⟩
      cases qy
      have s12 := s1.trans s2
      refine ⟨a, vs, i, j, w, rfl, rfl, s12 _ _ ha, hr.1, hr.2, by rw [len]; exact (ixN_seq hj).1, hw, ?_⟩
      have nd := hp1.nodup_iff.mp st.nd
      have n := List.nodup_append.mp nd
      have n1 := List.nodup_cons.mp n.1
      have n2 := List.nodup_append.mp (pj.nodup_iff.mp n1.2)
      have inI : ∀ b, b ∈ Aj ++ A0 → b ∈ Ai := fun b hb => pj.mem_iff.mpr hb
      have hfr : ∀ b ∈ Ai, upd H2 a (.lst (vs.eraseIdx j)) b = H b := fun b hb => by
        obtain ⟨_, o, ho⟩ := ownA_at oi b hb
        have hne : b ≠ a := fun z => n1.1 (by rw [← z]; exact hb)
        rw [upd_ne hne, s12 b o ho, ho]
      have gfr : ∀ b ∈ Ai, G b = none := fun b hb => (ownA_at oi b hb).1
      have hjl : j < ds.length := (List.getElem?_eq_some_iff.mp hx).1
      have evr : (vs.map some).eraseIdx j = (vs.eraseIdx j).map some := by
        rw [List.eraseIdx_eq_take_drop_succ, List.eraseIdx_eq_take_drop_succ, List.map_append, List.map_take, List.map_drop]
      rw [evr] at o0
      have oN : Own K G (upd H2 a (.lst (vs.eraseIdx j))) (.l t) (.list (ds.eraseIdx j)) (some (.ref a)) (a :: A0) := .l ga upd_same (by have := len_erase vs j; omega) (by
        rw [List.length_eraseIdx, if_pos hjl]
        exact ownA_fr o0 (Same.refl G) (fun b hb => gfr b (inI b (List.mem_append_right _ hb))) fun b hb => hfr b (inI b (List.mem_append_right _ hb)))
      obtain ⟨A2, s3, st3, inA⟩ := pl_wrote (u := .lst (vs.eraseIdx j)) (Ad' := a :: A0) st hp1 o1' back s12 (List.mem_cons_self ..) oN (fun b hb => by
        rcases List.mem_cons.mp hb with z | z
        · rw [z]; exact List.mem_cons_self ..
        · exact List.mem_cons_of_mem _ (inI b (List.mem_append_right _ z))) (List.nodup_cons.mpr ⟨fun z => n1.1 (inI _ (List.mem_append_right _ z)), n2.2.1⟩)
      have oj2 := own_fr (H' := upd H2 a (.lst (vs.eraseIdx j))) oj (Same.refl G) (fun b hb => gfr b (inI b (List.mem_append_left _ hb))) fun b hb => hfr b (inI b (List.mem_append_left _ hb))
      refine k G _ w Aj A2 ⟨s3.sg, s3.fr, fun b hb => ?_, s3.gnew⟩ st3 oj2 ?_
      · rcases List.mem_append.mp hb with z | z
        · exact .inl (hp1.mem_iff.mpr (List.mem_append_left _ (List.mem_cons_of_mem _ (inI b (List.mem_append_left _ z)))))
        · exact s3.own b z
      · refine List.nodup_append.mpr ⟨n2.1, st3.nd, fun x hx y hy z => ?_⟩
        subst z
        rcases List.mem_append.mp (inA x hy) with q | q
        · rcases List.mem_cons.mp q with q | q
          · exact n1.1 (q ▸ inI x (List.mem_append_left _ hx))
          · exact n2.2.2 x hx x q rfl
        · exact n.2.2 x (List.mem_cons_of_mem _ (inI x (List.mem_append_left _ hx))) x q rfl
    | _ => cases hf
end
end DL

namespace DL
open PySem L2 PySem.Spec

section
variable {K : PySem.W.Frag} {G H G1 H1 : Hp} {m m1 m2 mn : List Ty} {σ : St} {e : En} {A A1 : List Addr} {t : Ty} {ts : List Ty} {M : Mk}
/-- a list at a place is rewritten, a new value moved in -/
theorem pl_wrote2 {a : Addr} {Av Ad Ar Ad' : List Addr} {pt : Pf} {ty tv : Ty} {d d' dv : PyData} {v : Option V} {H2 : Hp} {u : HO} (s1 : Step A G H (Av ++ A1) G1 H1) (st : Stt K m G1 H1 σ e A1) (ov : Own K G1 H1 tv dv v Av) (ndv : (Av ++ A1).Nodup) (hp : A1.Perm (Ad ++ Ar)) (o1 : Own K G1 H1 ty d (some (.ref a)) Ad)
    (back : ∀ {G' H' : Hp} {d' : PyData} {Ad' : List Addr}, Same G1 G' → Own K G' H' ty d' (some (.ref a)) Ad' → (∀ b ∈ Ar, H' b = H1 b ∧ G' b = none) → ∃ A', OwnA K G' H' m (pt e d') σ A' ∧ A'.Perm (Ad' ++ Ar))
    (s : Same H1 H2) (hin : a ∈ Ad) (o2 : Own K G1 (upd H2 a u) ty d' (some (.ref a)) Ad') (sub : ∀ b ∈ Ad', b ∈ Av ∨ b ∈ Ad) (nd' : Ad'.Nodup) :
    ∃ A', Step A G H A' G1 (upd H2 a u) ∧ Stt K m G1 (upd H2 a u) σ (pt e d') A' := by
  have nv := List.nodup_append.mp ndv
  have nd := hp.nodup_iff.mp nv.2.1
  have n := List.nodup_append.mp nd
  have ga : G1 a = none := (own_at o1 a hin).1
  have haA : a ∈ A1 := hp.mem_iff.mpr (List.mem_append_left _ hin)
  obtain ⟨A', oA, pA⟩ := back (Same.refl G1) o2 fun b hb => by
    have hbA := hp.mem_iff.mpr (List.mem_append_right Ad hb)
    obtain ⟨gb, o, ho⟩ := ownA_at st.own b hbA
    have hne : b ≠ a := fun z => n.2.2 a hin b hb z.symm
    refine ⟨?_, gb⟩
    rw [upd_ne hne, s b o ho, ho]
  have ndA : A'.Nodup := pA.nodup_iff.mpr (List.nodup_append.mpr ⟨nd', n.2.1, fun x hx y hy z => by
    rcases sub x hx with q | q
    · exact nv.2.2 x q y (hp.mem_iff.mpr (List.mem_append_right _ hy)) z
    · exact n.2.2 x q y hy z⟩)
  have inA : ∀ b ∈ A', b ∈ Av ++ A1 := fun b hb => by
    rcases List.mem_append.mp (pA.mem_iff.mp hb) with z | z
    · rcases sub b z with q | q
      · exact List.mem_append_left _ q
      · exact List.mem_append_right _ (hp.mem_iff.mpr (List.mem_append_left _ q))
    · exact List.mem_append_right _ (hp.mem_iff.mpr (List.mem_append_right _ z))
  refine ⟨A', ⟨s1.sg, fun b o hb hbA => ?_, fun b hb => s1.own b (inA b hb), s1.gnew⟩, ⟨oA, ndA, fun b o hb => ?_⟩⟩
  · have hne : b ≠ a := fun z => by
      rcases s1.own a (List.mem_append_right _ haA) with q | q
      · exact hbA (by rw [z]; exact q)
      · rw [← z, hb] at q; cases q
    rw [upd_ne hne]; exact s b o (s1.fr b o hb hbA)
  · rw [upd_ne (ne_of_none hb ga)]; exact s b o (st.sub b o hb)
theorem own_set {n j : Nat} {ts : List Ty} {ds : List PyData} {vs : List V} {Ai Av : List Addr} {dx : PyData} {x : V} {H3 : Hp} (oi : OwnA K G H ts ds (vs.map some) Ai) (ht : ts[j]? = some t) (ov : Own K G H t dx (some x) Av)
    (hf : ∀ b ∈ Ai, H3 b = H b) (hv : ∀ b ∈ Av, H3 b = H b) : ∃ A2, OwnA K G H3 ts (ds.set j dx) ((vs.set j x).map some) A2 ∧ ∃ A0 Aj : List Addr, A2.Perm (Av ++ A0) ∧ Ai.Perm (Aj ++ A0) := by
  obtain ⟨d0, v0, Aj, A0, e1, e2, oj, oR, pj⟩ := ownA_take oi ht
  have hu : (ts.set j .u)[j]? = some .u := by rw [List.getElem?_set_self (List.getElem?_eq_some_iff.mp ht).1]
  have inI : ∀ b ∈ A0, b ∈ Ai := fun b hb => pj.mem_iff.mpr (List.mem_append_right _ hb)
  obtain ⟨A2, o2, p2⟩ := ownA_put (ownA_fr (H' := H3) oR (Same.refl G) (fun b hb => (ownA_at oi b (inI b hb)).1) fun b hb => hf b (inI b hb)) hu (own_fr (H' := H3) ov (Same.refl G) (fun b hb => (own_at ov b hb).1) hv)
  rw [List.set_set, set_id ht] at o2
  exact ⟨A2, by rw [List.map_set]; exact o2, A0, Aj, p2, pj⟩
theorem DS.setR {tv to ti : TE} {f : Ef} {g gi : Gq} {pt : Pf} {c : Nat} (hv : DE K m tv t f m1) (hp : DPl K m1 to (.r ts) g pt) (hi : DQv K m1 ti gi) (hc : ∀ e, gi e = some (.int (c : Nat))) (ht : ts[c]? = some t) (pn : ∀ {σ : St}, Pin M.po σ σ) : DS K M m (tAsg tv (L2.gSub to ti rSetL)) (sSet g pt gi f) m1 := by
  intro G H σ e A o e' D st hf k
  obtain ⟨⟨dx, e1⟩, hf0, hf⟩ := Option.bind_eq_some_iff.mp hf
  obtain ⟨dl, h1, hf⟩ := Option.bind_eq_some_iff.mp hf
  obtain ⟨di, h2, hf⟩ := Option.bind_eq_some_iff.mp hf
  refine hv st hf0 fun G1 H1 x Av A1 s1 st1 ov ndv => ?_
  obtain ⟨a, Ad, Ar, hp1, o1, ev, back⟩ := hp st1 h1
  have o1' := o1
  cases o1 with
  | @r _ _ vs ds Ai ga ha hz oi =>
    rw [hc] at h2; cases h2
    obtain ⟨j, hj, hf⟩ := Option.map_eq_some_iff.mp hf
    cases hf
    have hjk : j = c := by
      have q := ixN_seq hj
      have q1 := q.1
      rw [seqIndex_of (by omega) (by omega)] at q1
      have := Option.some.inj q1
      omega
    subst hjk
    have len : vs.length = ds.length := by have := (ownA_len oi).2; simpa using this
    refine ev fun H2 sH2 => hi (stt_grow st1 sH2).2 (hc e1) fun H3 y sH3 qy => ?_
    cases qy
    have s13 := sH2.trans sH3
    refine ⟨a, vs, _, j, rfl, rfl, s13 _ _ ha, by rw [len]; exact hj, ?_⟩
    have nv := List.nodup_append.mp ndv
    have nd := hp1.nodup_iff.mp nv.2.1
    have n := List.nodup_append.mp nd
    have n1 := List.nodup_cons.mp n.1
    have haA : a ∈ A1 := hp1.mem_iff.mpr (List.mem_append_left _ (List.mem_cons_self ..))
    have fr1 : ∀ b, b ≠ a → (∃ o, H1 b = some o) → upd H3 a (.lst (vs.set j x)) b = H1 b := fun b hb ⟨o, ho⟩ => by rw [upd_ne hb, s13 b o ho, ho]
    obtain ⟨A2, o2, A0, Aj, p2, pj⟩ := own_set (n := 0) (H3 := upd H3 a (.lst (vs.set j x))) oi ht ov (fun b hb => fr1 b (fun z => n1.1 (by rw [← z]; exact hb)) (ownA_at oi b hb).2)
      (fun b hb => fr1 b (fun z => nv.2.2 b hb a haA z) (own_at ov b hb).2)
    have nj := List.nodup_append.mp (pj.nodup_iff.mp n1.2)
    have in2 : ∀ b ∈ A2, b ∈ Av ∨ b ∈ Ai := fun b hb => (List.mem_append.mp (p2.mem_iff.mp hb)).imp id fun z => pj.mem_iff.mpr (List.mem_append_right _ z)
    have nd2 : A2.Nodup := p2.nodup_iff.mpr (List.nodup_append.mpr ⟨nv.1, nj.2.1, fun x hx y hy z => nv.2.2 x hx y (hp1.mem_iff.mpr (List.mem_append_left _ (List.mem_cons_of_mem _ (pj.mem_iff.mpr (List.mem_append_right _ hy))))) z⟩)
    obtain ⟨A', s4, st4⟩ := pl_wrote2 (u := .lst (vs.set j x)) (Ad' := a :: A2) s1 st1 ov ndv hp1 o1' back s13 (List.mem_cons_self ..) (.r ga upd_same (by rw [List.length_set]; exact hz) o2) (fun b hb => by
      rcases List.mem_cons.mp hb with z | z
      · rw [z]; exact .inr (List.mem_cons_self ..)
      · exact (in2 b z).imp id fun z => List.mem_cons_of_mem _ z) (List.nodup_cons.mpr ⟨fun z => by
        rcases in2 a z with q | q
        · exact nv.2.2 a q a haA rfl
        · exact n1.1 q, nd2⟩)
    exact k G1 _ σ A' s4 st4 pn
end
section
variable {ι : Type} {Xf : ι → Cx} {P : Program} {w : World} {K : PySem.W.Frag} {mg : Str → Option Value} {base : Heap} {n : Nat} [F : Fam Xf P w K mg base n]
variable {M : Mk} {m m1 m2 mn ml : List Ty} {pos p p2 spos apos cpos : Pos} {a b c v o i : Expr} {f : Ef} {g gi gv : Gq} {pt : Pf} {t ty : Ty} {ts : List Ty}
include F
theorem pd_app (j : Nat) {x : Str} {xp : Pos} (hv0 : PD Xf K (m.set j .u) v t f m1) (hm : m[j]? = some (.l t) := by rfl) (hm1 : m1[j]? = some .u := by rfl) (hN : ∀ i, (Xf i).N[j]? = some x := by intro _; rfl)
    (hv : ∀ i, Vis (Xf i).env.scope x := by first | (intro _; exact Or.inl rfl) | (intro _; exact Or.inr (Or.inl rfl)) | (intro _; exact Or.inr (Or.inr rfl))) (hd : (x == ("__debug__" : Str)) = false := by decide) (hcd : (x == ("__classdict__" : Str)) = false := by decide)
    (hbase : ∀ i, attributeBase (.Name x xp) "append" (Xf i).env (eval (.Name x xp) (Xf i).env) = eval (.Name x xp) (Xf i).env := by intro _; rfl)
    (hfew : ∀ i, ((backTo cpos (starEach [v] (Xf i).env)).all (fun x => !x.1) && (backToKw cpos (keywordEach [] (Xf i).env)).all (fun x => x.1.isSome)
      && decide ([v].length + ([] : List Keyword).length + (if ([] : List Keyword).isEmpty then 0 else 1) < 30)) = true := by intro _; rfl)
    (hline : (apos.endLine == cpos.line) = true := by rfl) (hs : ∀ i, starEach [v] (Xf i).env = (false, eval v (Xf i).env) :: starEach [] (Xf i).env := by intro _; rfl) (hplain : ∀ i, (backTo cpos (starEach [] (Xf i).env)).any (·.1) = false := by intro _; rfl) :
    PD Xf K m (.Call (.Attribute (.Name x xp) "append" apos) [v] [] cpos) .s (eApp j f) (m1.set j (.l t)) := by
  obtain ⟨tv, pv, dv⟩ := hv0.ex
  exact ⟨_, fun i => by have := pe_bm PySem.F.plainAttrs_list PySem.F.slot_list_append PySem.F.type_list_append (mt_append (X := Xf i)) (pe_var (hN i) (hv i) hd hcd) (pa_cons (pv i) pa_nil (hs i)) (hbase i) (hfew i) hline (hs i) (hplain i); rw [F.kk i] at this; exact this, DE.app hm dv hm1⟩
theorem pd_popAt (hp : PPl Xf K m o (.l t) g pt) (hi : PQ Xf K m v gi) (hbase : ∀ i, attributeBase o "pop" (Xf i).env (eval o (Xf i).env) = eval o (Xf i).env := by intro _; rfl)
    (hfew : ∀ i, ((backTo cpos (starEach [v] (Xf i).env)).all (fun x => !x.1) && (backToKw cpos (keywordEach [] (Xf i).env)).all (fun x => x.1.isSome)
      && decide ([v].length + ([] : List Keyword).length + (if ([] : List Keyword).isEmpty then 0 else 1) < 30)) = true := by intro _; rfl)
    (hline : (apos.endLine == cpos.line) = true := by rfl) (hs : ∀ i, starEach [v] (Xf i).env = (false, eval v (Xf i).env) :: starEach [] (Xf i).env := by intro _; rfl) (hplain : ∀ i, (backTo cpos (starEach [] (Xf i).env)).any (·.1) = false := by intro _; rfl) :
    PD Xf K m (.Call (.Attribute o "pop" apos) [v] [] cpos) t (ePopAt g pt gi) m := by
  obtain ⟨ta, pa, da⟩ := hp.ex
  obtain ⟨tv, pv, dv⟩ := hi.ex
  exact ⟨_, fun i => by have := pe_bm PySem.F.plainAttrs_list PySem.F.slot_list_pop PySem.F.type_list_pop (mt_popAt (X := Xf i)) (pa i) (pa_cons (pv i) pa_nil (hs i)) (hbase i) (hfew i) hline (hs i) (hplain i); rw [F.kk i] at this; exact this, DE.popAt da dv⟩
theorem ds_setR (c : Nat) {ci : Int} {cj} (hv : PD Xf K m v t f m1) (hp : PPl Xf K m1 o (.r ts) g pt) (hc : ci = (c : Nat) := by rfl) (ht : ts[c]? = some t := by rfl)
    (ha : ∀ z v, assign (.Subscript o (.Constant (.int ci) cj p) pos) (Xf z).env v = (do
      let ov ← holding [v] (eval o (Xf z).env)
      let iv ← holding [v, ov] (eval (.Constant (.int ci) cj p) (Xf z).env)
      standAt pos
      holding [v, ov, iv] (setItem ov iv v)
      release [v, ov, iv] []) := by intro _ _; rfl)
    (hs : ∀ z, swapsWithSole [.Subscript o (.Constant (.int ci) cj p) pos] v spos.line (Xf z).env = pure false := by intro _; rfl) (hw : ∀ z, swappedStores [.Subscript o (.Constant (.int ci) cj p) pos] v (Xf z).env = pure none := by intro _; rfl)
    (h1 : ∀ z, (assignEach [.Subscript o (.Constant (.int ci) cj p) pos] (Xf z).env).map (·.2) = [assign (.Subscript o (.Constant (.int ci) cj p) pos) (Xf z).env] := by intro _; rfl) : PSd Xf K M m (.Assign [.Subscript o (.Constant (.int ci) cj p) pos] v spos) (sSet g pt (qC (.int ci)) f) m1 := by
  obtain ⟨tv, pv, dv⟩ := hv.ex
  obtain ⟨ta, pa, da⟩ := hp.ex
  obtain ⟨tb, pb, db⟩ := (pq_int (Xf := Xf) (K := K) (m := m1) (i := ci) (j := cj) (pos := p)).ex
  exact ⟨_, fun z => ps_asg (pv z) (pg_sub (pa z) (pb z) set_list (ha z)) (hs z) (hw z) (h1 z), DS.setR dv da db (fun e => by subst hc; rfl) ht Pin.refl⟩
end
end DL

namespace DL
open PySem L2 PySem.Spec

/-! ### the script -/
section
variable {ι : Type} {Xf : ι → Cx} {P : Program} {w : World} {K : PySem.W.Frag} {mg : Str → Option Value} {base : Heap} {n : Nat} [F : Fam Xf P w K mg base n]
variable {m m1 m2 m3 : List Ty} {pos p p2 : Pos} {a b c tg : Expr} {f g h : Ef}
theorem own_q {K : PySem.W.Frag} {G H : Hp} {d : PyData} {v : Option V} {A : List Addr} (o : Own K G H .q d v A) : A = [] ∧ ∃ (a : Addr) (ns : List Int), v = some (.ref a) ∧ d = .list (ns.map .int) ∧ SqL K G a (ns.map V.int) ∧ ns.length ≤ sizeLine := by
  cases o with
  | q h hz => exact ⟨rfl, _, _, rfl, rfl, h, hz⟩
theorem dqA_nums {K : PySem.W.Frag} {G : Hp} : ∀ ns : List Int, DqA K G (ns.map V.int) (ns.map PyData.int)
  | [] => DqA.nil
  | i :: ns => DqA.cons (.int i) (dqA_nums ns)
/-- len(script) -/
def eLenQ (j : Nat) : Ef := fun e => match e.getD j .none with
  | .list ds => some (.int ds.length, e)
  | _ => none
include F in
theorem pd_lenQ (j : Nat) {x : Str} (hml : mg "len" = none) (hm : m[j]? = some .q := by rfl) (hN : ∀ i, (Xf i).N[j]? = some x := by intro _; rfl)
    (hv : ∀ i, Vis (Xf i).env.scope x := by first | (intro _; exact Or.inl rfl) | (intro _; exact Or.inr (Or.inl rfl)) | (intro _; exact Or.inr (Or.inr rfl))) (hd : (x == ("__debug__" : Str)) = false := by decide)
    (hcd : (x == ("__classdict__" : Str)) = false := by decide) (hg : ∀ i, Gl (Xf i) "len" := by intro _; rfl) (he : ∀ i, starEach [.Name x p2] (Xf i).env = (false, eval (.Name x p2) (Xf i).env) :: starEach [] (Xf i).env := by intro _; rfl) (hpl : ∀ i, (backTo pos (starEach [] (Xf i).env)).any (·.1) = false := by intro _; rfl) :
    PD Xf K m (.Call (.Name "len" p) [.Name x p2] [] pos) .s (eLenQ j) m := by
  refine ⟨_, fun i => (by have := pe_callB (X := Xf i) (pos := pos) (p := p) (call_len_seq (X := Xf i)) (hg i) (by rw [F.mg_ i]; exact hml) bt_len (pa_cons (pe_var (pos := p2) (hN i) (hv i) hd hcd) pa_nil (he i)) (by decide) (by decide) (he i) (hpl i); rw [F.kk i] at this; exact this), fun {G H σ e A d e' Q} st hf k => ?_⟩
  obtain ⟨d', v, Aj, A0, h1, h2, h3, _, _⟩ := ownA_take st.own hm
  obtain ⟨_, a, ns, rfl, rfl, hq, hz⟩ := own_q h3
  unfold eLenQ at hf
  rw [List.getD_eq_getElem?_getD, h1] at hf
  cases hf
  refine ⟨.ref a, h2, a, _, rfl, .inl (same_seqL st.sub hq), ?_⟩
  have e : (((ns.map V.int).length : Nat) : Int) = (((ns.map PyData.int).length : Nat) : Int) := by rw [List.length_map, List.length_map]
  rw [e]
  exact ans_s st (.int _) k
def eSlQ (j : Nat) (lo hi : Option Int) : Ef := fun e => (gSlL (e.getD j .none) lo hi).map fun d => (d, e)
end

/-! ### a def's body as a function of its arguments -/
def stb : Ty → Bool
  | .u => true
  | .s => true
  | .q => true
  | .f _ _ => true
  | .x _ _ _ => true
  | _ => false
inductive FinOk (po : List Nat) : Nat → List Ty → List Ty → Prop
  | nil (j : Nat) (m : List Ty) : FinOk po j [] m
  | stb {j : Nat} {t t' : Ty} {ts m : List Ty} : stb t = true → FinOk po (j + 1) ts m → FinOk po j (t :: ts) (t' :: m)
  | own {j : Nat} {t : Ty} {ts m : List Ty} : j ∈ po → FinOk po (j + 1) ts m → FinOk po j (t :: ts) (t :: m)
def fins : List Ty → List PyData → List PyData → List PyData
  | t :: ts, d :: ds, e :: es => (if stb t = true then d else e) :: fins ts ds es
  | _, _, _ => []
def runF (f : Sf) (ptys : List Ty) (r : Nat) : DFn := fun ds => (f (ds ++ List.replicate r .none)).bind fun p => match p.1 with
  | .rt d => some (d, fins ptys ds p.2)
  | .nx => some (.none, fins ptys ds p.2)
  | _ => none
section
variable {K : PySem.W.Frag} {G H G1 H1 : Hp}
theorem own_stb {t : Ty} {d : PyData} {v : Option V} {A : List Addr} (o : Own K G H t d v A) (h : stb t = true) : A = [] := by
  cases o with
  | u => rfl
  | s => rfl
  | q => rfl
  | d => cases h
  | t => cases h
  | o => cases h
  | f => rfl
  | x => rfl
  | e => cases h
  | k => cases h
  | a => cases h
  | l => cases h
  | r => cases h
theorem fin_own {po : List Nat} {σ0 σ : St} : ∀ {j : Nat} {ts m : List Ty} {ds e : List PyData} {vs : List (Option V)} {A0 A : List Addr} {τ : List (Option V)}, FinOk po j ts m → OwnA K G H ts ds vs A0 → Same G G1 → OwnA K G1 H1 m e τ A → (∀ i, τ[i]? = σ[j + i]?) → (∀ i v, vs[i]? = some v → σ0[j + i]? = some v) → Pin po σ0 σ → A.Nodup →
    ∃ A3, OwnA K G1 H1 ts (fins ts ds e) vs A3 ∧ A3.Nodup ∧ ∀ a ∈ A3, a ∈ A := by
  intro j ts
  induction ts generalizing j with
  | nil =>
    intro m ds e vs A0 A τ fo o0 sg o h1 h2 hp nd
    cases o0
    exact ⟨[], .nil, List.nodup_nil, fun a h => by cases h⟩
  | cons t ts ih =>
    intro m ds e vs A0 A τ fo o0 sg o h1 h2 hp nd
    cases o0 with
    | @cons _ _ d ds v vs B0 B1 p1 p2 =>
      have h2' : ∀ i x, vs[i]? = some x → σ0[j + 1 + i]? = some x := fun i x hx => by
        have := h2 (i + 1) x (by simpa using hx)
        rw [show j + 1 + i = j + (i + 1) by omega]; exact this
      cases fo with
      | stb hs fo =>
        cases o with
        | @cons _ _ d' ds' v' vs' C0 C1 q1 q2 =>
          have h1' : ∀ i, vs'[i]? = σ[j + 1 + i]? := fun i => by
            have := h1 (i + 1)
            rw [show j + 1 + i = j + (i + 1) by omega, ← this]; simp
          obtain ⟨A3, o3, n3, s3⟩ := ih fo p2 sg q2 h1' h2' hp (List.nodup_append.mp nd).2.1
          obtain rfl := own_stb p1 hs
          refine ⟨A3, ?_, n3, fun a ha => List.mem_append_right _ (s3 a ha)⟩
          unfold fins
          rw [if_pos hs]
          exact OwnA.cons (A := []) (own_fr p1 sg (fun a h => by cases h) fun a h => by cases h) o3
      | own hj fo =>
        cases o with
        | @cons _ _ d' ds' v' vs' C0 C1 q1 q2 =>
          have h1' : ∀ i, vs'[i]? = σ[j + 1 + i]? := fun i => by
            have := h1 (i + 1)
            rw [show j + 1 + i = j + (i + 1) by omega, ← this]; simp
          have n := List.nodup_append.mp nd
          obtain ⟨A3, o3, n3, s3⟩ := ih fo p2 sg q2 h1' h2' hp n.2.1
          have ev : v' = v := by
            have a := h1 0
            have b := h2 0 v rfl
            have c := hp j hj
            simp only [Nat.add_zero] at a b
            rw [← a, b] at c
            simpa using c
          subst ev
          by_cases hs : stb t = true
          · obtain rfl := own_stb p1 hs
            refine ⟨A3, ?_, n3, fun a ha => List.mem_append_right _ (s3 a ha)⟩
            unfold fins
            rw [if_pos hs]
            exact OwnA.cons (A := []) (own_fr p1 sg (fun a h => by cases h) fun a h => by cases h) o3
          · refine ⟨C0 ++ A3, ?_, List.nodup_append.mpr ⟨n.1, n3, fun a ha b hb z => n.2.2 a ha b (s3 b hb) z⟩, fun a ha => ?_⟩
            · unfold fins
              rw [if_neg hs]
              exact OwnA.cons q1 o3
            · rcases List.mem_append.mp ha with z | z
              · exact List.mem_append_left _ z
              · exact List.mem_append_right _ (s3 a z)
theorem ownA_us {ts : List Ty} {ds : List PyData} {vs : List (Option V)} {A : List Addr} (r : Nat) (h : OwnA K G H ts ds vs A) : OwnA K G H (ts ++ List.replicate r .u) (ds ++ List.replicate r .none) (vs ++ List.replicate r none) A := by
  induction ts generalizing ds vs A with
  | nil =>
    cases h
    simp only [List.nil_append]
    induction r with
    | zero => exact .nil
    | succ r ih => rw [List.replicate_succ, List.replicate_succ, List.replicate_succ]; exact OwnA.cons (A := []) (.u _ _) ih
  | cons t ts ih =>
    cases h with
    | cons h1 h2 => exact .cons h1 (ih h2)
end
theorem fnG_none {P : Program} {w : World} {K : PySem.W.Frag} {mg : Str → Option Value} {base : Heap} {k : Nat} {f : Addr} {fd : FuncData} {ps : List Str} {ptys : List Ty} {rty : Ty} : FnG P w K mg base k f fd ps (spD K ptys rty fun _ => none) :=
  ⟨fun vs H Q E ⟨ds, d, fs, G, A, h, _⟩ => (by cases h), fun A outer s H args us vs Q E _ _ _ _ _ ⟨ds, d, fs, G, A', h, _⟩ => (by cases h)⟩
/-- nothing falls off the end -/
def NoNx (f : Sf) : Prop := ∀ e e', f e ≠ some (.nx, e')
theorem nnx_ret {f : Ef} : NoNx (sRet f) := fun e e' h => by
  obtain ⟨p, _, h⟩ := Option.map_eq_some_iff.mp h
  cases h
/-- one context, as a family -/
abbrev oneX (X : Cx) : Unit → Cx := fun _ => X
theorem fam_one {P : Program} {w : World} {K : PySem.W.Frag} {mg : Str → Option Value} {base : Heap} {N ps : List Str} {qual : Str} {scope : Scope} {f : Addr} {cdv : Value} {A : Around} {outer : List Env} {s : Shared} {H : Hp} {E : XK} {n : Nat} (S : FnScope N ps scope)
    (hr : Room n (A.deeper (PyProof.Rows.envOfC qual scope s.heap.objs.size f cdv))) : Fam (oneX (cxOf CX0 P w K mg base N qual scope f cdv A outer s H E).nox) P w K mg base n :=
  ⟨fun _ => rfl, fun _ => rfl, fun _ => rfl, fun _ => rfl, fun _ => rfl, fun _ => hr.u, fun _ => S.nd⟩
/-- THE RULE for a def -/
theorem fnG_dl {P : Program} {w : World} {K : PySem.W.Frag} {mg : Str → Option Value} {base : Heap} {x qual : Str} {st : Stmt} {f : Addr} {fd : FuncData} {N ps : List Str} {k : Nat} {ptys : List Ty} {rty : Ty} {sf : Sf} {mr : List Ty} {po : List Nat} {r : Nat}
    (F : L2.Fun K x qual st f fd) (S : FnScope N ps (defScope st)) (hl : ptys.length = ps.length) (hr : N.length = ps.length + r) (fo : FinOk po 0 ptys mr) (hty : rty = .s ∨ ∀ e e', sf e ≠ some (.nx, e'))
    (hbody : ∀ (cdv : Value) (A : Around) (outer : List Env) (s : Shared) (H : Hp) (E : XK), Fam (oneX (cxOf CX0 P w K mg base N qual (defScope st) f cdv A outer s H E).nox) P w K mg base k → FamG (oneX (cxOf CX0 P w K mg base N qual (defScope st) f cdv A outer s H E).nox) → FamN (oneX (cxOf CX0 P w K mg base N qual (defScope st) f cdv A outer s H E).nox) →
      PSsd (oneX (cxOf CX0 P w K mg base N qual (defScope st) f cdv A outer s H E).nox) K ⟨[], [], mr, po, rty⟩ (ptys ++ List.replicate r .u) (defBody st) sf mr) : FnG P w K mg base (k + 1) f fd ps (spD K ptys rty (runF sf ptys r)) := by
  refine fnG_of F S (fun vs H Q E h => ?_) fun cdv A outer s H vs Q E room gd h => ?_
  · obtain ⟨ds, d, fs, G, A, _, o, _⟩ := h
    have := ownA_len o
    rw [List.length_map] at this
    omega
  · obtain ⟨ds, d, fs, G, A0, hF, o0, nd, sub, kont⟩ := h
    have ln := ownA_len o0
    rw [List.length_map] at ln
    obtain ⟨t, pt, dt⟩ := (hbody cdv A outer s H E (fam_one S room) ⟨fun _ => gd, fun _ => rfl, fun _ => room.hd⟩ ⟨fun _ => PassesOwn.never⟩).ex
    refine ⟨t, pt (), ?_⟩
    obtain ⟨⟨o, e'⟩, h1, h2⟩ := Option.bind_eq_some_iff.mp hF
    have hst : L2.start N vs = vs.map some ++ List.replicate r none := by
      unfold L2.start
      rw [show N.length - vs.length = r by omega]
    have st0 : Stt K (ptys ++ List.replicate r .u) G H (L2.start N vs) (ds ++ List.replicate r .none) A0 := ⟨by rw [hst]; exact ownA_us r o0, nd, sub⟩
    refine dt st0 h1 ?_
    have fin : ∀ {G' H' : Hp} {σ' : St} {A' : List Addr}, Same G G' → Stt K mr G' H' σ' e' A' → Pin po (L2.start N vs) σ' → ∃ A3, OwnA K G' H' ptys (fins ptys ds e') (vs.map some) A3 ∧ A3.Nodup ∧ ∀ a ∈ A3, a ∈ A' := fun {G' H' σ' A'} sg st' pn =>
      fin_own (j := 0) fo o0 sg st'.own (fun i => by rw [Nat.zero_add]) (fun i v hv => by
        rw [Nat.zero_add, hst, List.getElem?_append_left (List.getElem?_eq_some_iff.mp hv).1]; exact hv) pn st'.nd
    cases o with
    | nx =>
      cases h2
      rcases hty with hty | hty
      · subst hty
        exact fun G' H' σ' A' s' st' pn => by
          obtain ⟨A3, o3, n3, s3⟩ := fin s'.sg st' pn
          exact kont G' H' .non [] A3 (s'.less s3) o3 (.s .non) n3 st'.sub
      · exact absurd h1 (hty _ _)
    | bk => cases h2
    | ct => cases h2
    | rt d1 =>
      cases h2
      intro G' H' σ' v Av A' s' st' ov ndv pn
      obtain ⟨A3, o3, n3, s3⟩ := fin s'.sg st' pn
      have n := List.nodup_append.mp ndv
      refine kont G' H' v Av A3 (s'.less fun a ha => ?_) o3 ov (List.nodup_append.mpr ⟨n.1, n3, fun a ha b hb z => n.2.2 a ha b (s3 b hb) z⟩) st'.sub
      rcases List.mem_append.mp ha with z | z
      · exact List.mem_append_left _ z
      · exact List.mem_append_right _ (s3 a z)
end DL

namespace DL
open PySem L2 PySem.Spec PyProof.Rows

/-! ### the law's own call -/
/-- only the script at a is tracked, unless the module's written part holds it -/
def hScr (K : PySem.W.Frag) (a : Addr) (u : HO) : Hp := fun b => if b = a ∧ K.lookup a = none then some u else none
theorem hScr_some {K : PySem.W.Frag} {a b : Addr} {u z : HO} (h : hScr K a u b = some z) : b = a ∧ K.lookup a = none ∧ z = u := by
  unfold hScr at h
  split at h
  · rename_i c; exact ⟨c.1, c.2, (Option.some.inj h).symm⟩
  · cases h
theorem hScr_none {K : PySem.W.Frag} {a b : Addr} {u : HO} (h : b ≠ a ∨ K.lookup a ≠ none) : hScr K a u b = none := by
  unfold hScr
  rw [if_neg]
  rintro ⟨c1, c2⟩
  exact h.elim (fun z => z c1) fun z => z c2
section
variable {P : Program} {w : World} {K : PySem.W.Frag} {mg mb : Str → Option Value} {k : Nat} {fa a : Addr} {fd : FuncData} {x : Str} {s₁ : Shared} {vs : List Value} {ns : List Int} {Fn : DFn}
theorem scr_env (KX : K.In s₁.heap) (hns : s₁.heap.Ns mainGlobals mg) (hb : s₁.heap.Ns builtinsNs mb) (hbb : ∀ x : Str, x ≠ "__name__" → mb x = bootBuiltins x) (hlim : s₁.heap.NoLimit) (hg : s₁.gens = #[])
    {ob : Obj} {u : HO} (ha : s₁.heap.get? a = some ob) (hd : ∀ es ep, ob.data ≠ .dict es ep) (hu : ∀ H, ObjOk P w H s₁.heap a u) :
    K.In (hidT s₁.heap (hScr K a u)) ∧ (hidT s₁.heap (hScr K a u)).Ns mainGlobals mg ∧ Env0 P w K mg (hidT s₁.heap (hScr K a u)) callerA [] s₁ (hScr K a u) := by
  have up : ∀ {b : Addr} {o : Obj}, s₁.heap.get? b = some o → (b ≠ a ∨ K.lookup a ≠ none) → (hidT s₁.heap (hScr K a u)).get? b = some o := fun e n => hidT_get e (hScr_none n)
  have ns' : ∀ {b : Addr} {m : Str → Option Value}, s₁.heap.Ns b m → (hidT s₁.heap (hScr K a u)).Ns b m := by
    rintro b m ⟨o, es, ep, e, d, r⟩
    refine ⟨o, es, ep, up e (.inl fun z => ?_), d, r⟩
    subst z
    rw [ha] at e
    exact hd es ep ((Option.some.inj e) ▸ d)
  have kin : K.In (hidT s₁.heap (hScr K a u)) := fun b o e => up (KX b o e) (by
    by_cases z : b = a
    · subst z; exact .inr (by rw [e]; exact fun q => by cases q)
    · exact .inl z)
  obtain ⟨mc, hl1, hl2⟩ := hlim
  refine ⟨kin, ns' hns, rfl, ⟨kin, ns' hns, ⟨mb, ns' hb, hbb⟩, mc, ns' hl1, hl2⟩, fun b o e => of_hidT e, Nat.le_of_eq (hidT_size _ _), trivial, fun b hb => ?_, fun b z hz => ?_, .of_eq hg⟩
  · cases hb
  · obtain ⟨rfl, _, rfl⟩ := hScr_some hz
    exact hu _
theorem law_callG (KX : K.In s₁.heap) (hns : s₁.heap.Ns mainGlobals mg) (hb : s₁.heap.Ns builtinsNs mb) (hbb : ∀ x : Str, x ≠ "__name__" → mb x = bootBuiltins x) (hlim : s₁.heap.NoLimit) (hg : s₁.gens = #[])
    (ha : s₁.heap.get? a = some { cls := .type "list", data := .seq vs.toArray }) (hi : IntsAre vs ns) (hl : ns.length ≤ sizeLine) (hr : Room k callerA)
    (F : ∀ base : Heap, K.In base → base.Ns mainGlobals mg → FnG P w K mg base k fa fd [x] (spD K [.q] .s Fn)) (hbind : ∀ (s : Shared) (u : Value), BindsTo s fd ⟨[u], []⟩ [(x, u)])
    (hF : ∃ fs, Fn [.list (ns.map .int)] = some (.bool true, fs)) :
    codeAny (model P w) callerA (.call (.ref fa) ⟨[.ref a], []⟩) (fun r s' => r = .ok (.ret (.bool true)) ∧ OldK s₁.heap s'.heap ∧ s'.os = s₁.os ∧ AllBare s'.gens) s₁ := by
  obtain ⟨fs, hF⟩ := hF
  have rv := vals_ints hi
  have okA : ∀ H, ObjOk P w H s₁.heap a (.frz { cls := .type "list", data := .seq vs.toArray } (.lst (ns.map V.int))) := fun H => ⟨ha, by rw [List.length_map]; exact hl, vs, _, rv, ha⟩
  obtain ⟨k1, k2, e0⟩ := scr_env KX hns hb hbb hlim hg ha (fun es ep z => by cases z) okA
  have hS : SqL K (hScr K a (.frz { cls := .type "list", data := .seq vs.toArray } (.lst (ns.map V.int)))) a (ns.map V.int) := by
    cases hk : K.lookup a with
    | none => exact .inl (.inr ⟨_, if_pos ⟨rfl, hk⟩⟩)
    | some o =>
      have e := KX a o hk
      rw [ha] at e
      cases e
      exact .inr ⟨_, vs.toArray, _, hk, rfl, rfl, rfl, by rw [List.size_toArray, hi.length]; exact hl, by simpa using rv⟩
  refine codeAny_mono ((F _ k1 k2).run callerA [] s₁ _ ⟨[.ref a], []⟩ [.ref a] [.ref a] (fun v _ => v = .bl true) E0 hr rfl e0 (hbind s₁ (.ref a)) (.cons rfl .nil)
    ⟨_, _, fs, _, [], hF, OwnA.cons (A := []) (.q hS hl) .nil, List.nodup_nil, Same.refl _, fun G' H' v Av A' _ _ o _ _ => by
      cases o with
      | s q => cases q; rfl⟩) fun r s' h => ?_
  cases r with
  | error e => exact False.elim h
  | ok fl =>
    cases fl with
    | ret u =>
      obtain ⟨v, H', os, bare, un, hok', r', q⟩ := h
      cases q
      obtain rfl : u = Value.bool true := r'
      refine ⟨rfl, OldK.of_keep fun b o e => ?_, os, bare⟩
      cases hq : hScr K a (.frz { cls := .type "list", data := .seq vs.toArray } (.lst (ns.map V.int))) b with
      | none => exact un.keep b o e hq (fun z => by cases z) (by simp)
      | some z =>
        obtain ⟨rfl, _, rfl⟩ := hScr_some hq
        rw [ha] at e
        rw [← e]
        exact (hok' b _ (un.frzs b _ _ hq)).1
    | next => exact False.elim h
    | brk => exact False.elim h
    | cont => exact False.elim h
theorem walk_ofG {l : PySem.W.OpenLaw} {n k : Nat} {q : Program} {loose : List Str} {XP : (Str → Option Value) → Heap → Prop} {YP : World → Heap → Prop} {d : DefRec} {K : Params → PySem.W.Frag} {x : Str}
    (hn : l.most = some n) (hn2 : n ≤ sizeLine) (hdf : d.params.defaults = []) (hr : Room k callerA) (hY : ∀ (w : World) (h : Heap), YP w h → (K w.params).In h)
    (F : ∀ (w : World) (mg : Str → Option Value) (fa : Addr) (h : Heap), (K w.params).In h → h.Ns mainGlobals mg → mg d.name = some (.ref fa) →
      ∃ fd : FuncData, (∀ (s : Shared) (u : Value), BindsTo s fd ⟨[u], []⟩ [(x, u)]) ∧ ∀ base : Heap, (K w.params).In base → base.Ns mainGlobals mg → FnG l.prog w (K w.params) mg base k fa fd [x] (spD (K w.params) [.q] .s Fn))
    (hF : ∀ ns : List Int, ns.length ≤ n → ∃ fs, Fn [.list (ns.map .int)] = some (.bool true, fs)) :
    PySem.W.WalkO q loose XP YP l.row.toRowW d [] (fun f vs => PySem.call f vs) :=
  Att.attach_call hn hdf fun w s₀ s₁ mg mb fa o pm cd doc a vs ns G Y ho hd hcd hmg hobj hints hlen hg => by
    obtain ⟨fd, hb, hFn⟩ := F w mg fa _ (hY w _ Y) G.T.g hmg
    exact law_callG (hY w _ Y) G.T.g G.T.b G.T.builtins G.T.nolimit hg hobj hints (Nat.le_trans hlen hn2) hr hFn hb (hF ns hlen)
end
end DL

namespace DL
open PySem L2 PySem.Spec PyProof.Rows

/-! ### isinstance -/
class IsaOk (T : String) (p : outParam (PyData → Bool)) : Prop where
  h : ∀ {P : Program} {w : World} {A : Around} {E : Value → Shared → Prop} {s : Shared} {v : Value} {d : PyData} {as : List Addr} {Q : Value → Shared → Prop}, Reads s.heap v d as → (∀ tk, s.toks ≤ tk → Q (.bool (p d)) { s with toks := tk }) → wpAny (model P w) A (call (.builtin "isinstance") [v, .type T]) Q E s
instance : IsaOk "int" PyData.isInt := ⟨fun r h => PySem.W.isinstance_int_data r h⟩
instance : IsaOk "bool" PyData.isBool := ⟨fun r h => PySem.W.isinstance_bool_data r h⟩
instance : IsaOk "str" PyData.isStr := ⟨fun r h => PySem.W.isinstance_str_data r h⟩
instance : IsaOk "list" PyData.isList := ⟨fun r h => PySem.W.isinstance_list_data r h⟩
instance : IsaOk "tuple" PyData.isTuple := ⟨fun r h => PySem.W.isinstance_tuple_data r h⟩
instance : IsaOk "dict" PyData.isDict := ⟨fun r h => PySem.W.isinstance_dict_data r h⟩
instance : IsaOk "set" PyData.isSet := ⟨fun r h => PySem.W.isinstance_set_data r h⟩
def gIsa (p : PyData → Bool) (d : PyData) : Option PyData := some (.bool (p d))
def rIsaD (K : PySem.W.Frag) (T : String) (p : PyData → Bool) : List V → Hp → VK → Prop := fun vs H Q => ∃ x d, vs = [x, .ty T] ∧ Dq K H x d ∧ Q (.bl (p d)) H
theorem call_isaD {X : Cx} {T : String} {p : PyData → Bool} (h : IsaOk T p) : CallR X (.builtin "isinstance") (rIsaD X.K T p) := by
  intro pins s σ H vs us Q I r hq
  obtain ⟨x, d, rfl, q, k⟩ := hq
  obtain ⟨u1, u2, rfl, r1, r2⟩ := vals2 r
  cases (show u2 = Value.type T from r2)
  obtain ⟨as, rd⟩ := q.reads I r1
  exact h.h rd fun tk _ => ⟨.bl (p d), H, I.tok tk, rfl, k⟩
section
variable {ι : Type} {Xf : ι → Cx} {P : Program} {w : World} {K : PySem.W.Frag} {mg : Str → Option Value} {base : Heap} {n : Nat} [F : Fam Xf P w K mg base n]
variable {m m1 m2 m3 : List Ty} {pos p p2 : Pos} {a b c tg : Expr} {f g h : Ef} {fq : Gq}
include F in
theorem pd_isa (T : String) {pp : PyData → Bool} {x : Str} [ok : IsaOk T pp] (hm : mg "isinstance" = none) (hmT : mg x = none) (hv : bootBuiltins x = some (.type T)) (ha : PD Xf K m a .s f m1) (hg : ∀ i, Gl (Xf i) "isinstance" := by intro _; rfl) (hgT : ∀ i, Gl (Xf i) x := by intro _; rfl) (hn : x ≠ "__name__" := by decide) (hdb : (x == ("__debug__" : Str)) = false := by decide)
    (he : ∀ i, starEach [a, .Name x p2] (Xf i).env = (false, eval a (Xf i).env) :: starEach [.Name x p2] (Xf i).env := by intro _; rfl) (he2 : ∀ i, starEach [.Name x p2] (Xf i).env = (false, eval (.Name x p2) (Xf i).env) :: starEach [] (Xf i).env := by intro _; rfl) (hpl : ∀ i, (backTo pos (starEach [.Name x p2] (Xf i).env)).any (·.1) = false := by intro _; rfl) :
    PD Xf K m (.Call (.Name "isinstance" p) [a, .Name x p2] [] pos) .s (e1 (gIsa pp) f) m1 := by
  obtain ⟨ta, pa, da⟩ := ha.ex
  refine ⟨_, fun i => (by have := pe_callB (pos := pos) (p := p) (call_isaD (X := Xf i) ok) (hg i) (by rw [F.mg_ i]; exact hm) bt_isinstance (pa_cons (pa i) (pa_cons (pe_bltn (v := .ty T) (pos := p2) (hgT i) (by rw [F.mg_ i]; exact hmT) hv rfl hn hdb) pa_nil (he2 i)) (he i)) (by decide) (by decide) (he i) (hpl i); rw [F.kk i] at this; exact this), fun {G H σ e A d e' Q} st hf k => ?_⟩
  unfold e1 at hf
  obtain ⟨⟨d1, e1⟩, hf1, hf⟩ := Option.bind_eq_some_iff.mp hf
  obtain ⟨d3, hf3, hf⟩ := Option.bind_eq_some_iff.mp hf
  cases hf3
  cases hf
  refine da st hf1 fun G1 H1 v1 A1 B1 s1 st1 o1 nd1 => ?_
  cases o1 with
  | s q1 => exact ⟨v1, d1, rfl, q1.mono st1.sub, k G1 H1 _ [] B1 s1 st1 (.s (.bl _)) st1.nd⟩
include F in
/-- a module's whole number -/
theorem pd_gint {x : Str} {i : Int} {t : Tok} (hm : mg x = some (.int i t)) (hg : ∀ i, Gl (Xf i) x := by intro _; rfl) (hd : (x == ("__debug__" : Str)) = false := by decide) : PD Xf K m (.Name x pos) .s (eC (.int i)) m :=
  ⟨_, fun j => pe_glob (v := .int i) (hg j) (by rw [F.mg_ j]; exact hm) ⟨t, rfl⟩ hd, fun {G H σ e A d e' Q} st hf k => by cases hf; exact ans_s st (.int i) k⟩
/-! ### sorted -/
end
/-! ### sorted(tuple) -/
end DL
namespace DL
open PySem PySem.Calls PyProof.Rows L2
section
variable {prog : Program} {w : World} {A : Around} {E : Value → Shared → Prop} {s : Shared}
end
end DL
namespace DL
open PySem L2 PySem.Spec
section
variable {ι : Type} {Xf : ι → Cx} {P : Program} {w : World} {K : PySem.W.Frag} {mg : Str → Option Value} {base : Heap} {n : Nat} [F : Fam Xf P w K mg base n]
end
end DL

namespace DL
open PySem L2 PySem.Spec

section
variable {K : PySem.W.Frag} {M : Mk} {G H G1 H1 : Hp} {m m1 m2 mn : List Ty} {σ σ1 : St} {e : En} {A A1 : List Addr} {D : Ends} {e' : En} {o : Out} {t u : TS} {f g : Sf} {ef : Ef} {bf : Bf} {lf : Lf}
/-- an item of an owned variable, any index -/
def eItmG (j : Nat) (f : Ef) : Ef := fun e => (f e).bind fun p => (itemD (p.2.getD j .none) p.1).map fun x => (x, p.2)
end
section
variable {ι : Type} {Xf : ι → Cx} {P : Program} {w : World} {K : PySem.W.Frag} {mg : Str → Option Value} {base : Heap} {n : Nat} [F : Fam Xf P w K mg base n]
variable {M : Mk} {m m1 m2 mn ml : List Ty} {pos p p2 spos xp : Pos} {a b c v tg iter : Expr} {st : Stmt} {rest body orelse : List Stmt} {f g : Sf} {ef eg : Ef} {bf : Bf} {lf : Lf} {gf : Gf} {sl : List Nat} {ty t1 t2 : Ty}
/-! ### list(range(..)), tuple(range(..)) -/
structure PRd {ι : Type} (Xf : ι → Cx) (K : PySem.W.Frag) (m : List Ty) (e : Expr) (f : Lf) (m' : List Ty) : Prop where
  ex : ∃ te : St → Hp → (Int → Int → Hp → Prop) → Prop, (∀ i, PRg (Xf i) e te) ∧ ∀ {G H : Hp} {σ : St} {e : En} {A : List Addr} {ds : List PyData} {e' : En} {Q : Int → Int → Hp → Prop}, Stt K m G H σ e A → f e = some (ds, e') →
    (∀ (G' H' : Hp) (A' : List Addr) (a b : Int), Step A G H A' G' H' → Stt K m' G' H' σ e' A' → RgOk a b → ds = rngD a (b - a).toNat → Q a b H') → te σ H Q
theorem sz24 {n : Nat} (h : n ≤ sizeLine) : n ≤ 2 ^ 24 := by rw [sizeLine_eq] at h; omega
include F in
theorem pr_1 (hm : mg "range" = none) (ha : PD Xf K m a .s ef m1) (hg : ∀ i, Gl (Xf i) "range" := by intro _; rfl) (na : ∀ i, starEach [a] (Xf i).env = (false, eval a (Xf i).env) :: starEach [] (Xf i).env := by intro _; rfl) : PRd Xf K m (.Call (.Name "range" p) [a] [] pos) (iR1 ef) m1 := by
  obtain ⟨ta, pa, da⟩ := ha.ex
  refine ⟨_, fun i => prg_1 (hg i) (by rw [F.mg_ i]; exact hm) (pa i) (na i), fun {G H σ e A ds e' Q} st hf k => ?_⟩
  obtain ⟨⟨d1, e1⟩, hf1, hf⟩ := Option.bind_eq_some_iff.mp hf
  obtain ⟨ds1, hf2, hf⟩ := Option.bind_eq_some_iff.mp hf
  cases hf
  refine da st hf1 fun G1 H1 v1 A1 B1 s1 st1 o1 nd1 => ?_
  cases o1 with
  | s q1 =>
    cases d1 with
    | int j =>
      obtain ⟨hz, rfl⟩ := ite_some hf2
      replace hz := And.intro hz.2.1 (And.intro hz.2.2 hz.1)
      obtain rfl := dq_int q1
      exact ⟨j, rfl, k G1 H1 B1 0 j s1 st1 ⟨by omega, by omega, hz.1, hz.2.1, by rw [Int.sub_zero]; exact sz24 hz.2.2⟩ (by rw [Int.sub_zero])⟩
    | _ => cases hf2
theorem dqA_rg {G : Hp} {a b : Int} : DqA K G (rgV a b) (rngD a (b - a).toNat) := by
  unfold rgV rngD
  refine ⟨by simp, fun i v d h1 h2 => ?_⟩
  by_cases h : i < (b - a).toNat
  · rw [List.getElem?_map, List.getElem?_range h] at h1 h2
    cases h1; cases h2; exact .int _
  · rw [List.getElem?_map, List.getElem?_eq_none (by simp; omega)] at h1; cases h1
def eLsR (f : Lf) : Ef := fun e => (f e).map fun p => (.list p.1, p.2)
def eTpR (f : Lf) : Ef := fun e => (f e).map fun p => (.tuple p.1, p.2)
include F in
theorem pd_lsR [FG : FamG Xf] (hm : mg "list" = none) (he : PRd Xf K m a lf m1) (hg : ∀ i, Gl (Xf i) "list" := by intro _; rfl) (na : ∀ i, starEach [a] (Xf i).env = (false, eval a (Xf i).env) :: starEach [] (Xf i).env := by intro _; rfl) : PD Xf K m (.Call (.Name "list" p) [a] [] pos) (.l .s) (eLsR lf) m1 := by
  obtain ⟨te, pe, de⟩ := he.ex
  refine ⟨_, fun i => pe_listRg (FG.calm i) (hg i) (by rw [F.mg_ i]; exact hm) (pe i) (na i), fun {G H σ e A d e' Q} st hf k => ?_⟩
  obtain ⟨⟨ds, e1⟩, hf1, hf⟩ := Option.map_eq_some_iff.mp hf
  cases hf
  refine de st hf1 fun G1 H1 A1 x y s1 st1 ok hd => ⟨ok, ?_⟩
  subst hd
  exact ans_lst st1 (dqA_rg (K := K)) (by rw [rgV_length]; have := ok.2.2.2.2; rw [sizeLine_eq]; omega) fun G2 H2 v Av A2 s2 => k G2 H2 v Av A2 (s1.seq0 s2)
/-- code that is not come to -/
def sNever : Sf := fun _ => none
/-- x op= e on numbers -/
def sAug (j : Nat) (gg : PyData → PyData → Option PyData) (f : Ef) : Sf := fun e => (f e).bind fun p => (gg (p.2.getD j .none) p.1).map fun d => (.nx, p.2.set j d)
end
/-! ### repr -/
def rRepr (K : PySem.W.Frag) : List V → Hp → VK → Prop := fun vs H Q => ∃ x d, vs = [x] ∧ Dq K H x d ∧ gRepr d = some (.str d.shown) ∧ Q (.str d.shown) H
/-- what one value needs so that it can be shown within another -/
def Shw (P : Program) (w : World) (h : Heap) (u : Value) (d : PyData) : Prop :=
  d.showable = true → d.shown.length ≤ sizeLine → (∃ as, Reads h u d as) ∧ ∃ bs, ReadAtMost h d.depth bs ∧ ReprK P w bs h d.depth u d.shown
theorem shw_all {P : Program} {w : World} {h : Heap} : ∀ {us : List Value} {ds : List PyData}, us.length = ds.length → (∀ (i : Nat) u d, us[i]? = some u → ds[i]? = some d → Shw P w h u d) →
    PyData.showableAll ds = true → (∀ t ∈ PyData.shownAll ds, t.length ≤ sizeLine) → (∃ as, ReadsAll h us ds as) ∧ ∃ bs, ReadAtMost h (PyData.depthAll ds) bs ∧ ReprAllK P w bs h (PyData.depthAll ds) us (PyData.shownAll ds)
  | [], [], _, _, _, _ => ⟨⟨_, .nil⟩, [], (fun b hb => by cases hb), by rw [PyData.shownAll]; exact .nil⟩
  | u :: us, d :: ds, hl, hi, hs, hz => by
    unfold PyData.showableAll at hs
    rw [Bool.and_eq_true] at hs
    unfold PyData.shownAll at hz ⊢
    unfold PyData.depthAll
    obtain ⟨⟨a1, r1⟩, b1, m1, k1⟩ := hi 0 u d rfl rfl hs.1 (hz _ (List.mem_cons_self ..))
    obtain ⟨⟨a2, r2⟩, b2, m2, k2⟩ := shw_all (us := us) (ds := ds) (by simpa using hl) (fun i u d h1 h2 => hi (i + 1) u d (by simpa using h1) (by simpa using h2)) hs.2 fun t ht => hz t (List.mem_cons_of_mem _ ht)
    refine ⟨⟨_, .cons r1 r2⟩, b1 ++ b2, (m1.mono (Nat.le_max_left _ _)).append (m2.mono (Nat.le_max_right _ _)), ?_⟩
    exact .cons ((k1.more fun _ z => List.mem_append_left _ z).level_le (Nat.le_max_left ..)) (k2.more_le (fun _ z => List.mem_append_right _ z) (Nat.le_max_right ..))
  | [], _ :: _, hl, _, _, _ => by simp at hl
  | _ :: _, [], hl, _, _, _ => by simp at hl
theorem nodictK : ∀ kvs : List (Str × Int), PyData.hasDictAll ((kvs.map fun p => (PyData.str p.1, PyData.int p.2)).map (·.1)) = false ∧ PyData.hasDictAll ((kvs.map fun p => (PyData.str p.1, PyData.int p.2)).map (·.2)) = false
  | [] => ⟨rfl, rfl⟩
  | p :: kvs => by
    obtain ⟨h1, h2⟩ := nodictK kvs
    simp only [List.map_cons, PyData.hasDictAll, h1, h2]
    exact ⟨rfl, rfl⟩
theorem vals_at {xs : List V} {us : List Value} (r : Vals xs us) {i : Nat} {u : Value} (h : us[i]? = some u) : ∃ v, xs[i]? = some v ∧ RelV v u := by
  have hi : i < xs.length := by rw [r.length]; exact (List.getElem?_eq_some_iff.mp h).1
  obtain ⟨u', e, q⟩ := r.get (List.getElem?_eq_getElem hi)
  rw [h] at e
  cases e
  exact ⟨_, List.getElem?_eq_getElem hi, q⟩
section
variable {X : Cx} {pins : List (Addr × Obj)} {σ : St} {H : Hp} {s : Shared}
theorem Dq.shw (I : L2.Inv X pins σ H s) {v : V} {d : PyData} (h : Dq X.K H v d) : ∀ {u : Value}, RelV v u → Shw X.prog X.w s.heap u d := by
  induction h with
  | non => intro u r _ _; cases r; exact ⟨⟨_, .none⟩, [], (fun b hb => by cases hb), by rw [PyData.shown]; exact .of_is ReprIs.none _ _ _⟩
  | bl b => intro u r _ _; cases r; exact ⟨⟨_, .bool b⟩, [], (fun b hb => by cases hb), by rw [PyData.shown]; exact .of_is (ReprIs.bool b) _ _ _⟩
  | int i =>
    intro u r hs _
    obtain ⟨t, rfl⟩ := r
    exact ⟨⟨_, .int i t⟩, [], (fun b hb => by cases hb), by rw [PyData.shown]; exact .of_is (ReprIs.int t (by simpa [PyData.showable] using hs)) _ _ _⟩
  | str x _ =>
    intro u r _ hz
    obtain ⟨t, rfl⟩ := r
    exact ⟨⟨_, .str x t⟩, [], (fun b hb => by cases hb), by rw [PyData.shown]; exact .of_is (ReprIs.str x t (by simpa only [PyData.shown] using hz)) _ _ _⟩
  | @lst a xs ds h1 hl _ _ ih =>
    intro u r hs hz
    cases r
    unfold PyData.shown at hz
    obtain ⟨_, its, n, rv, ho⟩ := rdL I h1
    obtain ⟨⟨as, ra⟩, bs, m, k⟩ := shw_all (P := X.prog) (w := X.w) (h := s.heap) (us := its) (ds := ds) (by rw [← rv.length]; exact hl) (fun i u d hu hd => by
      obtain ⟨v, hv, q⟩ := vals_at rv hu
      exact ih i v d hv hd q) (by simpa [PyData.showable] using hs) fun t ht => Nat.le_trans (listText_mem_le ht) hz
    have rr : Reads s.heap (.ref a) (.list ds) _ := .list ho rfl rfl ra
    have nin : a ∉ bs := not_mem_of_deeper rr (by unfold PyData.depth; omega) m
    refine ⟨⟨_, rr⟩, a :: bs, ReadAtMost.cons rr (by unfold PyData.depth; omega) m, ?_⟩
    unfold PyData.depth PyData.shown
    cases its with
    | nil =>
      cases ra
      rw [PyData.shownAll, listText_nil]
      exact ReprK.listEmpty ho rfl rfl
    | cons y its => exact ReprK.list ho rfl rfl nin (by simpa using k.length_eq) fun i z e => k.item i z (by simpa using e)
  | @tup a xs ds h1 hl _ _ ih =>
    intro u r hs hz
    cases r
    unfold PyData.shown at hz
    obtain ⟨its, rv, ⟨o, ho, hc, n, hd⟩, _⟩ := I.tuple h1.sq
    obtain ⟨⟨as, ra⟩, bs, m, k⟩ := shw_all (P := X.prog) (w := X.w) (h := s.heap) (us := its) (ds := ds) (by rw [← rv.length]; exact hl) (fun i u d hu hd => by
      obtain ⟨v, hv, q⟩ := vals_at rv hu
      exact ih i v d hv hd q) (by simpa [PyData.showable] using hs) fun t ht => Nat.le_trans (tupleText_mem_le ht) hz
    have rr : Reads s.heap (.ref a) (.tuple ds) _ := .tuple ho hc hd ra
    have nin : a ∉ bs := not_mem_of_deeper rr (by unfold PyData.depth; omega) m
    refine ⟨⟨_, rr⟩, a :: bs, ReadAtMost.cons rr (by unfold PyData.depth; omega) m, ?_⟩
    unfold PyData.depth PyData.shown
    exact ReprK.tuple ho hc hd nin k
  | @dic a kvs h1 _ _ =>
    intro u r hs hz
    cases r
    unfold PyData.shown at hz
    obtain ⟨o, es, ep, ho, hx, hd, hp, hne⟩ := rdD I h1
    obtain ⟨as, ra, bs, rb⟩ := readsKV_of (h := s.heap) hp
    have rr : Reads s.heap (.ref a) (.dict (kvs.map fun p => (PyData.str p.1, PyData.int p.2))) _ := Reads.dict (as := as) (bs := bs) ho hx.1 hd (by rw [List.map_map]; exact ra) (by rw [List.map_map]; exact rb)
    obtain ⟨s1, s2⟩ := PyData.showableKv_split _ (by simpa [PyData.showable] using hs)
    obtain ⟨nd1, nd2⟩ := nodictK kvs
    obtain ⟨b1, m1, k1⟩ := ReprAllK.of_readsAll (prog := X.prog) (w := X.w) (by rw [List.map_map]; exact ra : ReadsAll s.heap (es.toList.map (·.key)) ((kvs.map fun p => (PyData.str p.1, PyData.int p.2)).map (·.1)) as) s1 (fun z => by rw [nd1] at z; cases z) fun t ht => by
      obtain ⟨p, hp, hl⟩ := PyData.shownKv_key_le _ t ht
      exact Nat.le_trans hl (Nat.le_trans (dictText_mem_le hp) hz)
    obtain ⟨b2, m2, k2⟩ := ReprAllK.of_readsAll (prog := X.prog) (w := X.w) (by rw [List.map_map]; exact rb : ReadsAll s.heap (es.toList.map (·.val)) ((kvs.map fun p => (PyData.str p.1, PyData.int p.2)).map (·.2)) bs) s2 (fun z => by rw [nd2] at z; cases z) fun t ht => by
      obtain ⟨p, hp, hl⟩ := PyData.shownKv_val_le _ t ht
      exact Nat.le_trans hl (Nat.le_trans (dictText_mem_le hp) hz)
    have m := (m1.mono (PyData.depthAll_keys_le _)).append (m2.mono (PyData.depthAll_vals_le _))
    have nin : a ∉ b1 ++ b2 := not_mem_of_deeper rr (by unfold PyData.depth; omega) m
    refine ⟨⟨_, rr⟩, a :: (b1 ++ b2), ReadAtMost.cons rr (by unfold PyData.depth; omega) m, ?_⟩
    unfold PyData.depth PyData.shown
    rw [PyData.shownKv_eq]
    exact ReprK.dict ho hx.1 hd hne nin (ReprEntriesK.of_two es.toList _ _ (k1.more_le (fun b hb => List.mem_append_left _ hb) (PyData.depthAll_keys_le _)) (k2.more_le (fun b hb => List.mem_append_right _ hb) (PyData.depthAll_vals_le _)))
end
/-- no text of an object is under way -/
class FamD {ι : Type} (Xf : ι → Cx) : Prop where
  gd : ∀ i, (Xf i).A.guards = some []
instance {ι : Type} {Xf : ι → Cx} [F : FamG Xf] : FamD Xf := ⟨fun i => F.gd i⟩
theorem call_reprD {X : Cx} {n : Nat} (hr : RoomU n X.A) (hg : X.A.guards = some []) : CallR X (.builtin "repr") (rRepr X.K) := by
  intro pins s σ H vs us Q I r h
  obtain ⟨x, d, rfl, q, hd, k⟩ := h
  obtain ⟨u, rfl, rx⟩ := vals1 r
  obtain ⟨h1, h3, h4⟩ := (ite_some hd).1
  have un := hr.un
  have fin : ∀ (h' : Heap) (t tk : Nat), (∀ b o, s.heap.get? b = some o → h'.get? b = some o) → EP X pins σ Q (.str d.shown t) { s with heap := h', toks := tk } := fun h' t tk hk => ⟨.str d.shown, H, I.kept (t' := tk) hk, ⟨t, rfl⟩, k⟩
  have q0 := q
  cases q with
  | non => cases rx; exact PySem.P.repr_of_none (fin s.heap s.toks (s.toks + 1) fun _ _ e => e)
  | bl b => cases rx; exact PySem.P.repr_of_bool (fin s.heap s.toks (s.toks + 1) fun _ _ e => e)
  | int i =>
    obtain ⟨t, rfl⟩ := rx
    exact PySem.P.repr_of_int (by simpa [PyData.showable] using h1) (fin s.heap s.toks (s.toks + 1) fun _ _ e => e)
  | str z hz =>
    obtain ⟨t, rfl⟩ := rx
    exact PySem.P.repr_of_str (fin s.heap s.toks (s.toks + 1) fun _ _ e => e) h4
  | @lst a xs ds hs hl _ hq =>
    cases rx
    unfold PyData.shown at h4 fin
    unfold PyData.depth at h3
    obtain ⟨_, its, m, rv, ho⟩ := rdL I hs
    obtain ⟨⟨as, ra⟩, bs, mm, kk⟩ := shw_all (P := X.prog) (w := X.w) (h := s.heap) (us := its) (ds := ds) (by rw [← rv.length]; exact hl) (fun i u d hu hd => by
      obtain ⟨v, hv, q⟩ := vals_at rv hu
      exact (hq i v d hv hd).shw I q) (by simpa [PyData.showable] using h1) fun t ht => Nat.le_trans (listText_mem_le ht) h4
    have rr : Reads s.heap (.ref a) (.list ds) _ := .list ho rfl rfl ra
    have nin : a ∉ bs := not_mem_of_deeper rr (by unfold PyData.depth; omega) mm
    refine call_repr_slot (by omega) ⟨_, ho, rfl⟩ PySem.F.slot_list_repr.toG ?_
    cases its with
    | nil =>
      cases ra
      exact call_list_repr_empty ⟨_, ho, rfl⟩ ho rfl ⟨_, _, rfl, by
        have := fin s.heap s.toks (s.toks + 1) fun _ _ e => e
        rw [PyData.shownAll, listText_nil] at this
        exact this⟩
    | cons y its =>
      exact call_list_reprK ho rfl rfl nin (by simpa using kk.length_eq) (fun i z e => kk.item i z (by simpa using e)) hg (fun b _ => Clear.nil b) (by show X.A.units + 1 + _ < cLine; omega) (fun _ _ e => e) (fun h' t tk hk => ⟨_, _, rfl, fin h' t tk hk⟩) h4
  | @tup a xs ds hs hl _ hq =>
    cases rx
    unfold PyData.shown at h4 fin
    unfold PyData.depth at h3
    obtain ⟨its, rv, ⟨o, ho, hc, m, hdd⟩, _⟩ := I.tuple hs.sq
    obtain ⟨⟨as, ra⟩, bs, mm, kk⟩ := shw_all (P := X.prog) (w := X.w) (h := s.heap) (us := its) (ds := ds) (by rw [← rv.length]; exact hl) (fun i u d hu hd => by
      obtain ⟨v, hv, q⟩ := vals_at rv hu
      exact (hq i v d hv hd).shw I q) (by simpa [PyData.showable] using h1) fun t ht => Nat.le_trans (tupleText_mem_le ht) h4
    have rr : Reads s.heap (.ref a) (.tuple ds) _ := .tuple ho hc hdd ra
    have nin : a ∉ bs := not_mem_of_deeper rr (by unfold PyData.depth; omega) mm
    exact call_repr_slot (by omega) ⟨_, ho, hc⟩ PySem.F.slot_tuple_repr (call_tuple_reprK ho hc hdd nin kk hg (fun b _ => Clear.nil b) (by show X.A.units + 1 + _ < cLine; omega) (fun _ _ e => e) (fun h' t tk hk => ⟨_, _, rfl, fin h' t tk hk⟩) h4)
  | @dic a kvs hs hz _ =>
    cases rx
    obtain ⟨o, es, ep, ho, hx, hdd, hp, hne⟩ := rdD I hs
    obtain ⟨as, ra, bs, rb⟩ := readsKV_of (h := s.heap) hp
    have rr : Reads s.heap (.ref a) (.dict (kvs.map fun p => (PyData.str p.1, PyData.int p.2))) _ := Reads.dict (as := as) (bs := bs) ho hx.1 hdd (by rw [List.map_map]; exact ra) (by rw [List.map_map]; exact rb)
    have em : ∀ {us : List Value} {ds : List PyData} {as : List Addr}, ReadsAll s.heap us ds as → (∀ d ∈ ds, (∃ z, d = .str z) ∨ ∃ i, d = .int i) → as = [] := fun {us ds as} r => by
      induction ds generalizing us as with
      | nil => intro _; cases r; rfl
      | cons d ds ih =>
        intro hd
        cases r with
        | cons r1 r2 =>
          rw [ih r2 fun d h => hd d (List.mem_cons_of_mem _ h)]
          rcases hd d (List.mem_cons_self ..) with ⟨z, rfl⟩ | ⟨i, rfl⟩
          · cases r1; rfl
          · cases r1; rfl
    have ea : as = [] := em ra fun d hd => by
      obtain ⟨p, _, rfl⟩ := List.mem_map.mp hd
      exact .inl ⟨_, rfl⟩
    have eb : bs = [] := em rb fun d hd => by
      obtain ⟨p, _, rfl⟩ := List.mem_map.mp hd
      exact .inr ⟨_, rfl⟩
    exact PySem.repr_of_reads' rr h1 (fun _ z => by
      rw [ea, eb] at z
      simp only [List.append_nil, List.mem_singleton] at z
      rw [← z] at hne
      simp at hne) hg (by omega) (fun _ _ e => e) (fun h' t tk hk => fin h' t tk hk) h4
section
variable {ι : Type} {Xf : ι → Cx} {P : Program} {w : World} {K : PySem.W.Frag} {mg : Str → Option Value} {base : Heap} {n : Nat} [F : Fam Xf P w K mg base n] [FD : FamD Xf]
include F FD in
theorem clRepr : Cl1 Xf K (.builtin "repr") .s gRepr := by
  refine ⟨rRepr K, fun i => by have := call_reprD (X := Xf i) (F.room i) (FD.gd i); rw [F.kk i] at this; exact this, fun {m G H σ e A x dx d Q} st hx ee k => ?_⟩
  have ee' := ee
  obtain ⟨hc, rfl⟩ := ite_some ee
  exact ⟨x, dx, rfl, hx.mono st.sub, ee', ans_s st (.str _ hc.2.2) k⟩
end
end DL

namespace DL
open PySem L2 PySem.Spec

/-! ### two variables lent -/
section
variable {K : PySem.W.Frag} {G H : Hp}
end
def eCallL2 (Fn : DFn) (k1 j1 k2 j2 : Nat) (r : Lf) : Ef := fun e => (r e).bind fun p => (Fn ((p.1.set k1 (p.2.getD j1 .none)).set k2 (p.2.getD j2 .none))).bind fun q => some (q.1, (p.2.set j2 (q.2.getD k2 .none)).set j1 (q.2.getD k1 .none))
section
variable {ι : Type} {Xf : ι → Cx} {P : Program} {w : World} {K : PySem.W.Frag} {mg : Str → Option Value} {base : Heap} {n : Nat} [F : Fam Xf P w K mg base n] [FG : FamG Xf]
variable {m m1 m2 m3 : List Ty} {pos p p2 : Pos} {a b c : Expr} {es : List Expr} {f g h : Ef} {fr : Lf} {ty : Ty} {tys : List Ty} {L : List (Option Nat)}
end
end DL

namespace DL
open PySem L2 PySem.Spec

/-! ### x[::-1] -/
section
open PyProof.Rows PySem.SeqAt PySem.MeetsSeq PySem.MeetsSeq2 PySem.MeetsSeq3 HT
variable {prog : Program} {w : World} {A : Around} {E : Value → Shared → Prop} {s : Shared}
theorem back_parts {sl : Addr} {n : Nat} {u : Tok} {Q : Int × Int × Nat → Shared → Prop} (hs : s.heap.IsSliceOf sl .none .none (.int (-1) u)) (h : Q ((n : Int) - 1, -1, n) s) : wpAny (model prog w) A (Builtin.Slice.sliceApplied (.ref sl) (pure (n : Int))) Q E s := by
  obtain ⟨ob, ho, _, hd⟩ := id hs
  unfold Builtin.Slice.sliceApplied Builtin.Slice.sliceFields
  refine wpAny_bind (wpAny_bind (wpAny_field ho hd (x := .none) rfl (wpAny_bind (wpAny_field ho hd (x := .none) rfl (wpAny_bind (wpAny_field ho hd (x := .int (-1) u) rfl (wpAny_pure ?_)))))))
  refine wpAny_bind (slicePart_int ?_)
  show wpAny _ _ (if ((-1 : Int) == 0) = true then _ else _) _ _ s
  rw [if_neg (by decide)]
  refine wpAny_bind (slicePart_none (wpAny_bind (slicePart_none (wpAny_bind (wpAny_pure ?_)))))
  have e : Builtin.Slice.slicePlaces ((n : Int) - 1) (-1) (-1) = n := by
    unfold Builtin.Slice.slicePlaces
    rw [if_neg (by decide)]
    split
    · rw [show (-(-1 : Int)) = 1 by decide, Int.ediv_one]; omega
    · omega
  show wpAny _ _ (pure ((n : Int) - 1, (-1 : Int), Builtin.Slice.slicePlaces ((n : Int) - 1) (-1) (-1))) _ _ s
  rw [e]
  exact wpAny_pure h
theorem fm_some {α β : Type} {f : α → Option β} {g : α → β} : ∀ {l : List α}, (∀ k ∈ l, f k = some (g k)) → l.filterMap f = l.map g
  | [], _ => rfl
  | k :: l, h => by rw [List.filterMap_cons_some (h k (List.mem_cons_self ..)), fm_some fun x hx => h x (List.mem_cons_of_mem _ hx), List.map_cons]
theorem back_pick (xs : Array Value) : ((List.range xs.size).filterMap fun (k : Nat) => xs[(((xs.size : Int) - 1) + (k : Int) * (-1)).toNat]?).toArray = xs.toList.reverse.toArray := by
  have e : (List.range xs.size).filterMap (fun (k : Nat) => xs[(((xs.size : Int) - 1) + (k : Int) * (-1)).toNat]?) = (List.range xs.size).map fun k => xs.toList.reverse.getD k Value.none := by
    refine fm_some fun k hk => ?_
    have hk := List.mem_range.mp hk
    have i1 : (((xs.size : Int) - 1) + (k : Int) * (-1)).toNat = xs.size - 1 - k := by omega
    rw [i1]
    have hl : k < xs.toList.length := by rw [Array.length_toList]; exact hk
    have : xs.toList.reverse[k]? = xs.toList[xs.toList.length - 1 - k]? := List.getElem?_reverse hl
    rw [Array.length_toList] at this
    have key : xs.toList[xs.size - 1 - k]? = xs[xs.size - 1 - k]? := by simp
    rw [List.getD_eq_getElem?_getD, this, key, Array.getElem?_eq_getElem (by omega)]
    rfl
  rw [e]
  congr 1
  apply List.ext_getElem?
  intro k
  by_cases hk : k < xs.size
  · have hl : k < xs.toList.reverse.length := by rw [List.length_reverse, Array.length_toList]; exact hk
    rw [List.getElem?_map, List.getElem?_range hk, List.getElem?_eq_getElem hl]
    simp [List.getD_eq_getElem?_getD, List.getElem?_eq_getElem hl]
  · rw [List.getElem?_eq_none (by simp; omega), List.getElem?_eq_none (by simp; omega)]
theorem getItem_back {t sl : Addr} {items : Array Value} {u : Tok} {Q : Value → Shared → Prop} (ht : IsTup s.heap t items) (hs : s.heap.IsSliceOf sl .none .none (.int (-1) u)) (hsz : items.size ≤ sizeLine)
    (h : Q (.ref s.heap.objs.size) { s with heap := s.heap.push { cls := .type "tuple", data := .seq items.toList.reverse.toArray } }) : wpAny (model prog w) A (getItem (.ref t) (.ref sl)) Q E s := by
  have ok : sizeOk (.seq items.toList.reverse.toArray) := by
    show items.toList.reverse.toArray.size ≤ sizeLine
    rw [List.size_toArray, List.length_reverse, Array.length_toList]; exact hsz
  obtain ⟨ob, ho, hc, _⟩ := id hs
  have hT : s.TypeIs (.ref sl) "slice" := ⟨ob, ho, hc⟩
  unfold getItem
  try with_reducible refine wpAny_holding ?_
  first | refine wpAny_bind (wpAny_pure ?_) | skip
  refine wpAny_bind (wpAny_sequenceKey ht.typeIs (by decide) ?_)
  refine wpAny_bind (wpAny_callSpecial?_slot (name := Str.ofString "__getitem__") ht.typeIs PyProof.Rows.slot_tuple_getitem (wpAny_call_entry PyProof.Rows.slot_tuple_getitem ht.typeIs entry_tuple_getitem ?_ (args_tuple_getitem _ _)))
  show wpAny _ _ (Builtin.Tuple.tupleItemsOf (.ref t) >>= _) _ _ s
  refine wpAny_bind (tupleItemsOf_ ht (wpAny_bind (wpAny_typeOf hT ?_)))
  rw [if_pos (by decide)]
  refine wpAny_bind (back_parts hs ?_)
  show wpAny _ _ (if (((items.size : Int) - 1) == 0 && (-1 : Int) == 1 && items.size == items.size) = true then _ else _) _ _ s
  rw [if_neg (by simp), back_pick]
  first
    | exact wpAny_bind (m := Builtin.Tuple.tupleExact _) (wpAny_newObj_type (wpAny_pure ⟨_, rfl, wpAny_pure h⟩) ok)
    | exact wpAny_bind (m := Builtin.Tuple.tupleExact _) (wpAny_newObj_type (wpAny_bind (wpAny_pure (wpAny_pure ⟨_, rfl, wpAny_pure h⟩))) ok)
    | exact wpAny_bind (wpAny_bind (m := Builtin.Tuple.tupleExact _) (wpAny_newObj_type (wpAny_pure (wpAny_pure ⟨_, rfl, wpAny_pure h⟩)) ok))
    | exact wpAny_bind (wpAny_bind (m := Builtin.Tuple.tupleExact _) (wpAny_newObj_type (wpAny_pure ⟨_, rfl, wpAny_pure h⟩) ok))
end
def tBack (K : PySem.W.Frag) (te : TE) : TE := fun σ H Q => te σ H fun x H1 => ∃ a xs, x = .ref a ∧ ((SqT K H1 a xs ∧ NewT H1 xs.reverse Q) ∨ (SqL K H1 a xs ∧ ∀ p, H1 p = none → Q (.ref p) (upd H1 p (.lst xs.reverse))))
section
open PyProof.Rows
theorem pe_back {X : Cx} {e : Expr} {te : TE} {k : Nat} {p1 p2 p3 pos : Pos} (he : PE X e te) : PE X (.Subscript e (.Slice none none (some (.UnaryOp .USub (.Constant (.int 1) k p1) p2)) p3) pos) (tBack X.K te) := by
  refine ⟨fun pins s σ H Q I h => Subscript_ (thn (he.run pins s σ H _ I h) fun v s1 ⟨x, H1, I1, r1, a, xs, ex, q1⟩ => ?_)⟩
  subst ex
  cases r1
  have neg : PO X (some (.UnaryOp .USub (.Constant (.int 1) k p1) p2)) (tPart (tUn (rU fun i => .int (-i)) (tC (.int 1)))) := po_some (pe_un un_neg pe_int)
  refine wpAny_Slice (thn (po_none.run pins s1 σ H1 (fun o H2 => o = none ∧ H2 = H1) I1 ⟨rfl, rfl⟩) fun vl s2 ⟨_, _, I2, pl, el, e2⟩ => ?_)
  subst el; subst e2
  refine thn (po_none.run pins s2 σ _ (fun o H3 => o = none ∧ H3 = _) I2 ⟨rfl, rfl⟩) fun vu s3 ⟨_, _, I3, pu, eu, e3⟩ => ?_
  subst eu; subst e3
  refine thn (neg.run pins s3 σ _ (fun o H4 => o = some (-1) ∧ H4 = _) I3 ⟨1, rfl, -1, rfl, rfl, rfl⟩) fun vs s4 ⟨_, _, I4, ps, eo, e4⟩ => ?_
  subst eo; subst e4
  cases pl; cases pu
  cases ps with
  | int _ t =>
    have I5 := I4.kept (t' := s4.toks) (h' := s4.heap.push { cls := .type "slice", data := .fields #[.none, .none, .int (-1) t] }) fun b ob q => Heap.get?_push_of_some _ q
    rcases q1 with ⟨hq, q⟩ | ⟨hq, q⟩
    · obtain ⟨its, r, ht, hz⟩ := I5.tuple hq
      have hl := r.length
      refine tail_any (ops := [.ref a, .ref s4.heap.objs.size]) ht.typeIs PyProof.Rows.slot_tuple_getitem.lookup ?_ (by with_unfolding_all rfl)
      have hx := newT_ep I5 r.reverse (by rw [List.length_reverse]; exact hz) q
      refine getItem_back ht (Heap.IsSliceOf.new _ .none .none _) (by rw [List.size_toArray]; omega) ?_
      simpa using hx
    · obtain ⟨its, r, ht, hz⟩ := I5.list hq
      have hl := r.length
      refine tail_any (ops := [.ref a, .ref s4.heap.objs.size]) ht.isList.typeIs PySem.slot_list_getitem.lookup ?_ (by with_unfolding_all rfl)
      refine wpAny_getItem_list_slice ht.isList (Heap.IsSliceOf.new _ .none .none _) .none .none (.int _ _) (by decide) ?_ (by rw [List.size_toArray]; omega)
      rw [PySem.W.krv_pick]
      exact ⟨.ref _, _, I5.laid (t' := s4.toks) (o := .lst xs.reverse) (fun b ob q => Heap.get?_push_of_some _ q) (Nat.le_refl _) ⟨by rw [List.length_reverse]; exact hz, _, 0, r.reverse, Heap.get?_push_size _ rfl⟩, rfl, q _ (I5.hok.fresh (Nat.le_refl _))⟩
end
def gBack : PyData → Option PyData
  | .tuple xs => some (.tuple xs.reverse)
  | .list xs => some (.list xs.reverse)
  | _ => none
section
variable {ι : Type} {Xf : ι → Cx} {P : Program} {w : World} {K : PySem.W.Frag} {mg : Str → Option Value} {base : Heap} {n : Nat} [F : Fam Xf P w K mg base n]
variable {m m1 : List Ty} {a : Expr} {ef : Ef} {k : Nat} {p1 p2 p3 pos : Pos}
theorem DqA.rev {G : Hp} {xs : List V} {ds : List PyData} (q : DqA K G xs ds) : DqA K G xs.reverse ds.reverse := by
  refine ⟨by rw [List.length_reverse, List.length_reverse]; exact q.1, fun i v d h1 h2 => ?_⟩
  have hi : i < xs.length := by have := (List.getElem?_eq_some_iff.mp h1).1; rw [List.length_reverse] at this; exact this
  rw [List.getElem?_reverse hi] at h1
  rw [List.getElem?_reverse (by rw [← q.1]; exact hi), ← q.1] at h2
  exact q.2 _ v d h1 h2
include F in
theorem pd_back (ha : PD Xf K m a .s ef m1) : PD Xf K m (.Subscript a (.Slice none none (some (.UnaryOp .USub (.Constant (.int 1) k p1) p2)) p3) pos) .s (e1 gBack ef) m1 := by
  obtain ⟨ta, pa, da⟩ := ha.ex
  refine ⟨_, fun i => by have := pe_back (k := k) (p1 := p1) (p2 := p2) (p3 := p3) (pos := pos) (pa i); rw [F.kk i] at this; exact this, fun {G H σ e A d e' Q} st hf kk => ?_⟩
  unfold e1 at hf
  obtain ⟨⟨d1, e1⟩, hf1, hf⟩ := Option.bind_eq_some_iff.mp hf
  obtain ⟨d2, hf2, hf⟩ := Option.bind_eq_some_iff.mp hf
  cases hf
  refine da st hf1 fun G1 H1 v1 A1 B1 s1 st1 o1 nd1 => ?_
  cases o1 with
  | s q1 =>
    cases d1 with
    | tuple ds =>
      cases hf2
      obtain ⟨b, xs, rfl, r1, z1, qq⟩ := dq_tup q1
      refine ⟨b, xs, rfl, .inl ⟨same_seqT st1.sub r1, ?_⟩⟩
      exact ans_tup st1 qq.rev (by rw [List.length_reverse]; exact z1) fun G2 H2 v Av A2 s2 => kk G2 H2 v Av A2 (s1.seq0 s2)
    | list ds =>
      cases hf2
      obtain ⟨b, xs, rfl, r1, z1, qq⟩ := dq_lst q1
      refine ⟨b, xs, rfl, .inr ⟨.inl (same_rd st1.sub r1), ?_⟩⟩
      exact ans_lst st1 qq.rev (by rw [List.length_reverse]; exact z1) (kfrz rfl fun G2 H2 v Av A2 s2 => kk G2 H2 v Av A2 (s1.seq0 s2))
    | _ => cases hf2
end
end DL

namespace DL
open PySem L2 PySem.Spec

/-! ### slots that nobody reads again are forgotten -/
def fgE (js : List Nat) (e : En) : En := js.foldl (fun e j => e.set j .none) e
def fgOk (js : List Nat) (m : List Ty) : Bool := js.all fun j => match m[j]? with | some .u => true | _ => false
def outE (js jr : List Nat) (o : Out) (e : En) : En := match o with | .rt _ => fgE jr e | _ => fgE js e
def iFg (js : List Nat) (lf : Lf) : Lf := fun e => (lf e).bind fun p => some (p.1, fgE js p.2)
def sPre (js : List Nat) (f : Sf) : Sf := fun e => f (fgE js e)
def sPost (js jr : List Nat) (f : Sf) : Sf := fun e => (f e).bind fun p => some (p.1, outE js jr p.1 p.2)
section
variable {K : PySem.W.Frag} {G H : Hp} {m m1 ml mn : List Ty} {σ : St} {e : En} {A : List Addr} {M : Mk} {f : Sf} {t : TS}
theorem ownA_fg {j : Nat} : ∀ {m : List Ty} {e : En} {σ : St} {A : List Addr} {j : Nat}, m[j]? = some .u → OwnA K G H m e σ A → OwnA K G H m (e.set j .none) σ A := by
  intro m
  induction m with
  | nil => intro e σ A j h; simp at h
  | cons t m ih =>
    intro e σ A j h o
    cases o with
    | @cons _ _ d ds v vs A B o1 o2 =>
      cases j with
      | zero =>
        simp only [List.getElem?_cons_zero, Option.some.injEq] at h
        subst h
        cases o1
        exact OwnA.cons (A := []) (.u _ _) o2
      | succ j =>
        simp only [List.getElem?_cons_succ] at h
        exact OwnA.cons o1 (ih h o2)
theorem stt_fg {js : List Nat} (ok : fgOk js m = true) (st : Stt K m G H σ e A) : Stt K m G H σ (fgE js e) A := by
  induction js generalizing e with
  | nil => exact st
  | cons j js ih =>
    simp only [fgOk, List.all_cons, Bool.and_eq_true] at ok
    refine ih ok.2 ⟨ownA_fg (j := 0) ?_ st.own, st.nd, st.sub⟩
    have := ok.1
    split at this
    · assumption
    · cases this
theorem WalkD.mono {wk : Bool} {G G' : Hp} {J : It} {ds : List PyData} (h : WalkD K wk G J ds) (s : Same G G') : WalkD K wk G' J ds :=
  ⟨fun i H hi s' => h.goes i H hi (s.trans s'), fun H s' => h.stops H (s.trans s'), fun hi s' st y => h.yields hi (s.trans s') st y⟩
theorem DS.post {js jr : List Nat} (h : DS K M m t f mn) (o1 : fgOk js mn = true) (o2 : fgOk js M.b = true) (o3 : fgOk js M.c = true) (o4 : fgOk jr M.r = true) : DS K M m t (sPost js jr f) mn := by
  intro G H σ e A o e' D st hf k
  obtain ⟨⟨o0, e0⟩, hf1, hf⟩ := Option.bind_eq_some_iff.mp hf
  simp only [Option.some.injEq, Prod.mk.injEq] at hf
  obtain ⟨rfl, rfl⟩ := hf
  refine h st hf1 ?_
  cases o0 with
  | nx => exact fun G' H' σ' A' s' st' p' => k G' H' σ' A' s' (stt_fg o1 st') p'
  | bk => exact fun G' H' σ' A' s' st' p' => k G' H' σ' A' s' (stt_fg o2 st') p'
  | ct => exact fun G' H' σ' A' s' st' p' => k G' H' σ' A' s' (stt_fg o3 st') p'
  | rt d => exact fun G' H' σ' v Av A' s' st' ov nd p' => k G' H' σ' v Av A' s' (stt_fg o4 st') ov nd p'
end
section
variable {ι : Type} {Xf : ι → Cx} {K : PySem.W.Frag} {M : Mk} {m m1 ml mn : List Ty} {tg iter : Expr} {lf : Lf} {st : Stmt} {body : List Stmt} {f : Sf}
theorem pi_fg {wk : Bool} (js : List Nat) (h : PIt Xf K wk m tg iter lf m1) (l : LeM m1 ml) (ok : fgOk js ml = true := by first | decide | rfl | simp) : PIt Xf K wk m tg iter (iFg js lf) ml := by
  obtain ⟨wi, p, d⟩ := h.ex
  refine ⟨wi, p, fun {G H σ e A ds e' R} st hf k => ?_⟩
  obtain ⟨⟨ds1, e1⟩, hf1, hf⟩ := Option.bind_eq_some_iff.mp hf
  simp only [Option.some.injEq, Prod.mk.injEq] at hf
  obtain ⟨rfl, rfl⟩ := hf
  refine d st hf1 fun G1 H1 A1 J s1 st1 wk hz => ?_
  obtain ⟨G2, A2, s2, st2⟩ := stt_le l st1
  exact k G2 H1 A2 J (s1.seq0 s2) (stt_fg ok st2) (wk.mono s2.sg) hz
theorem ss_post (js jr : List Nat) (h : PSsd Xf K M m body f mn) (o1 : fgOk js mn = true := by first | decide | rfl | simp) (o2 : fgOk js M.b = true := by first | decide | rfl | simp) (o3 : fgOk js M.c = true := by first | decide | rfl | simp) (o4 : fgOk jr M.r = true := by first | decide | rfl | simp) : PSsd Xf K M m body (sPost js jr f) mn := by
  obtain ⟨t, p, d⟩ := h.ex
  exact ⟨t, p, d.post o1 o2 o3 o4⟩
theorem ds_pre (js : List Nat) (h : PSd Xf K M m1 st f mn) (l : LeM m m1) (ok : fgOk js m1 = true := by first | decide | rfl | simp) : PSd Xf K M m st (sPre js f) mn := by
  obtain ⟨t, p, d⟩ := h.ex
  refine ⟨t, p, fun {G H σ e A o e' D} st hf k => ?_⟩
  obtain ⟨G2, A2, s2, st2⟩ := stt_le l st
  exact d (stt_fg ok st2) hf (k.back s2 Pin.refl)
end
end DL

namespace DL
open PySem L2 PySem.Spec

/-! ### not as a value; dicts displayed; xs.pop(a drawn place); xs.extend -/
def gPopAt (l i : PyData) : Option (PyData × PyData) := match l, i with
  | .list ds, .int k => if -(2 ^ 63) ≤ k ∧ k < 2 ^ 63 then (ixN ds.length k).bind fun j => (ds[j]?).bind fun x => some (x, .list (ds.eraseIdx j)) else none
  | _, _ => none
def gExt (l x : PyData) : Option PyData := match l, x with
  | .list ds, .list es => if ds.length + es.length ≤ sizeLine then some (.list (ds ++ es)) else none
  | _, _ => none
def eNotT (b : Bf) : Ef := fun e => (b e).bind fun p => some (.bool (!p.1), p.2)
def ePopG (j : Nat) (f : Ef) : Ef := fun e => (f e).bind fun p => (gPopAt (p.2.getD j .none) p.1).bind fun q => some (q.1, p.2.set j q.2)
def eExt (j : Nat) (f : Ef) : Ef := fun e => (f e).bind fun p => (gExt (p.2.getD j .none) p.1).bind fun l => some (.none, p.2.set j l)
section
variable {K : PySem.W.Frag} {G H G1 H1 : Hp} {m m1 m2 mn : List Ty} {σ : St} {e : En} {A A1 : List Addr} {t : Ty} {ts : List Ty}
/-- the list of stable items in slot j, ready to be rewritten -/
theorem slot_list {j : Nat} {Av : List Addr} {e1 : En} (s1 : Step A G H (Av ++ A1) G1 H1) (nd : (Av ++ A1).Nodup) (st : Stt K m G1 H1 σ e1 A1) (hm : m[j]? = some (.l .s)) :
    ∃ a vs ds, σ[j]? = some (some (.ref a)) ∧ e1.getD j .none = .list ds ∧ G1 a = none ∧ H1 a = some (.lst vs) ∧ vs.length ≤ sizeLine ∧ DqA K G1 vs ds ∧
      ∀ (vs' : List V) (ds' : List PyData), DqA K G1 vs' ds' → vs'.length ≤ sizeLine → ∃ A2, Step A G H A2 G1 (upd H1 a (.lst vs')) ∧ Stt K m G1 (upd H1 a (.lst vs')) σ (e1.set j (.list ds')) A2 := by
  obtain ⟨dj, vj, Aj, A0, h1, h2, h3, h4, hp⟩ := ownA_take st.own hm
  have n1 := List.nodup_append.mp (hp.nodup_iff.mp st.nd)
  cases h3 with
  | @l _ a vs ds Ai ga ha hz oi =>
    obtain ⟨rfl, q⟩ := of_ownA oi
    have haA : a ∈ A1 := hp.mem_iff.mpr (List.mem_append_left _ (List.mem_singleton.mpr rfl))
    have ne : ∀ b ∈ A0, b ≠ a := fun b hb z => n1.2.2 a (List.mem_singleton.mpr rfl) b hb z.symm
    refine ⟨a, vs, ds, h2, by rw [List.getD_eq_getElem?_getD, h1]; rfl, ga, ha, hz, q, fun vs' ds' q' hz' => ?_⟩
    have fr : ∀ b, b ≠ a → upd H1 a (.lst vs') b = H1 b := fun b hb => upd_ne hb
    have oN : Own K G1 (upd H1 a (.lst vs')) (.l .s) (.list ds') (some (.ref a)) (a :: []) := .l ga upd_same hz' (ownA_of q')
    have hu : (m.set j .u)[j]? = some .u := by rw [List.getElem?_set_self (List.getElem?_eq_some_iff.mp hm).1]
    obtain ⟨A2, o2, p2⟩ := ownA_put (ownA_fr (H' := upd H1 a (.lst vs')) h4 (Same.refl G1) (fun b hb => (ownA_at h4 b hb).1) fun b hb => fr b (ne b hb)) hu oN
    rw [List.set_set, set_id (l := m) hm, set_id (l := σ) h2] at o2
    have inA : ∀ b ∈ A2, b ∈ A1 := fun b hb => hp.mem_iff.mpr (p2.mem_iff.mp hb)
    refine ⟨A2, ⟨s1.sg, fun b o hb hbA => ?_, fun b hb => s1.own b (List.mem_append_right _ (inA b hb)), s1.gnew⟩, ⟨o2, p2.nodup_iff.mpr (hp.nodup_iff.mp st.nd), fun b o hb => ?_⟩⟩
    · have hne : b ≠ a := fun z => by
        rcases s1.own a (List.mem_append_right _ haA) with k | k
        · exact hbA (z ▸ k)
        · rw [← z, hb] at k; cases k
      rw [fr b hne]; exact s1.fr b o hb hbA
    · rw [fr b (ne_of_none hb ga)]; exact st.sub b o hb
theorem DqA.erase {vs : List V} {ds : List PyData} (q : DqA K G vs ds) (j : Nat) : DqA K G (vs.eraseIdx j) (ds.eraseIdx j) := by
  refine ⟨by rw [List.length_eraseIdx, List.length_eraseIdx, q.1], fun i v d h1 h2 => ?_⟩
  rw [List.getElem?_eraseIdx] at h1 h2
  split at h1
  · rename_i hi; rw [if_pos hi] at h2; exact q.2 _ _ _ h1 h2
  · rename_i hi; rw [if_neg hi] at h2; exact q.2 _ _ _ h1 h2
theorem DE.popG {ti : TE} {f : Ef} {j : Nat} (hm : m[j]? = some (.l .s)) (he : DE K m ti .s f m1) (hm1 : m1[j]? = some (.l .s)) : DE K m (tBM K "list" rPopAt (tVar j) (tCons ti tNil)) .s (ePopG j f) m1 := by
  intro G H σ e A d e' Q st hf k
  obtain ⟨⟨dx, e1⟩, hf1, hf⟩ := Option.bind_eq_some_iff.mp hf
  obtain ⟨⟨r, l⟩, hf2, hf⟩ := Option.bind_eq_some_iff.mp hf
  cases hf
  obtain ⟨a0, vs0, ds0, h0, _, _, ha0, _⟩ := slot_list (Av := []) (Step.refl (A := A)) st.nd st hm
  refine ⟨.ref a0, h0, .inl ⟨rfl, _, .inl (.inl ha0)⟩, ?_⟩
  refine he st hf1 fun G1 H1 y Av B1 s1 st1 ov ndv => ?_
  obtain ⟨a, vs, ds, h2, h1, ga, ha, hz, q, wr⟩ := slot_list s1 ndv st1 hm1
  rw [h0] at h2
  cases h2
  cases dx with
  | int i =>
    cases ov with
    | s qy =>
      cases qy
      rw [show List.getD (PyData.int i, e1).2 j .none = .list ds from h1] at hf2
      obtain ⟨hr, hf2⟩ := ite_some2 hf2
      obtain ⟨n, hn, hf2⟩ := Option.bind_eq_some_iff.mp hf2
      obtain ⟨x, hx, hf2⟩ := Option.bind_eq_some_iff.mp hf2
      cases hf2
      obtain ⟨w, hw, qw⟩ := q.get hx
      have hl := len_erase vs n
      obtain ⟨A2, s3, st3⟩ := wr (vs.eraseIdx n) _ (q.erase n) (by omega)
      exact ⟨a0, vs, i, n, w, rfl, rfl, ha, hr.1, hr.2, by rw [q.1]; exact (ixN_seq hn).1, hw, k G1 _ w [] A2 s3 st3 (.s qw) st3.nd⟩
  | _ => 
    exfalso
    unfold gPopAt at hf2
    split at hf2
    · rename_i h; cases h
    · cases hf2
theorem DE.ext {ti : TE} {f : Ef} {j : Nat} (hm : m[j]? = some (.l .s)) (he : DE K m ti (.l .s) f m1) (hm1 : m1[j]? = some (.l .s)) : DE K m (tBM K "list" rExtend (tVar j) (tCons ti tNil)) .s (eExt j f) m1 := by
  intro G H σ e A d e' Q st hf k
  obtain ⟨⟨dx, e1⟩, hf1, hf⟩ := Option.bind_eq_some_iff.mp hf
  obtain ⟨l, hf2, hf⟩ := Option.bind_eq_some_iff.mp hf
  cases hf
  obtain ⟨a0, vs0, ds0, h0, _, _, ha0, _⟩ := slot_list (Av := []) (Step.refl (A := A)) st.nd st hm
  refine ⟨.ref a0, h0, .inl ⟨rfl, _, .inl (.inl ha0)⟩, ?_⟩
  refine he st hf1 fun G1 H1 y Av B1 s1 st1 ov ndv => ?_
  obtain ⟨a, vs, ds, h2, h1, ga, ha, hz, q, wr⟩ := slot_list s1 ndv st1 hm1
  rw [h0] at h2
  cases h2
  cases ov with
  | @l _ b ws es Bi gb hb hzb ob =>
    obtain ⟨rfl, qw⟩ := of_ownA ob
    rw [show List.getD (PyData.list es, e1).2 j .none = .list ds from h1] at hf2
    obtain ⟨hr, hf2⟩ := ite_some hf2
    cases hf2
    have l1 := q.1
    have l2 := qw.1
    obtain ⟨A2, s3, st3⟩ := wr (vs ++ ws) _ (q.append qw) (by rw [List.length_append]; omega)
    exact ⟨a0, b, vs, ws, rfl, rfl, ha, hb, by omega, k G1 _ .non [] A2 s3 st3 (.s .non) st3.nd⟩
end
section
variable {ι : Type} {Xf : ι → Cx} {P : Program} {w : World} {K : PySem.W.Frag} {mg : Str → Option Value} {base : Heap} {n : Nat} [F : Fam Xf P w K mg base n]
variable {m m1 : List Ty} {pos p p2 apos cpos xp : Pos} {a b v : Expr} {f : Ef} {fb : Bf}
include F in
/-- not e, e by its truth -/
theorem pd_notV (ha : PD Xf K m a .s f m1) : PD Xf K m (.UnaryOp .Not a pos) .s (eNotT (bOf f)) m1 := by
  obtain ⟨ta, pa, da⟩ := ha.ex
  refine ⟨fun σ H Q => ta σ H fun x H1 => ∃ k, TruV K x H1 k ∧ Q (.bl (!k)) H1, fun i => by have := pe_notT (pa i) (pos := pos); rw [F.kk i] at this; exact this, fun {G H σ e A d e' Q} st hf k => ?_⟩
  obtain ⟨⟨b1, e1⟩, hf1, hf⟩ := Option.bind_eq_some_iff.mp hf
  cases hf
  obtain ⟨⟨dx, e2⟩, hf2, hf3⟩ := Option.bind_eq_some_iff.mp (show (f e).bind (fun p => (gTruth p.1).bind fun b => some (b, p.2)) = some (b1, e1) from hf1)
  obtain ⟨c, hc, hf3⟩ := Option.bind_eq_some_iff.mp hf3
  cases hf3
  refine da st hf2 fun G1 H1 x A1 B1 s1 st1 o1 nd1 => ?_
  cases o1 with
  | s q1 => exact ⟨_, truV_of q1 st1.sub hc, k G1 H1 _ [] B1 s1 st1 (.s (.bl _)) st1.nd⟩
theorem pd_dic0 : PD Xf K m (.Dict [] [] pos) .s (eC (.dict [])) m := by
  refine ⟨tDNewK, fun i => pe_dnewK, fun {G H σ e A d e' Q} st hf k => ?_⟩
  cases hf
  intro p hp
  obtain ⟨s1, st1, sg⟩ := new_s (o := .dK []) st hp
  exact k _ _ _ [] A s1 st1 (.s (.dic (kvs := []) (.inl upd_same) (by decide) fun _ => upd_same)) st1.nd
theorem pd_dic1 {x : Str} {c : Int} {j1 j2 p1 p2} : PD Xf K m (.Dict [some (.Constant (.str x) j1 p1)] [.Constant (.int c) j2 p2] pos) .s (eC (.dict [(.str x, .int c)])) m := by
  refine ⟨_, fun i => pe_disp (pps_cons pe_str pe_int pps_nil) rfl rfl (by simp) (by simp), fun {G H σ e A d e' Q} st hf k => ?_⟩
  cases hf
  intro p hp
  refine ⟨upd_same, [(Sum.inr x, .int c)], rfl, by simp, ?_⟩
  obtain ⟨s1, st1, sg⟩ := new_s (o := .dK [(Sum.inr x, .int c)]) st hp
  have e : upd (upd H p (.dK [])) p (.dK (mergeK [] [((Sum.inr x : Key), V.int c)])) = upd H p (.dK [(Sum.inr x, .int c)]) := by
    funext b
    by_cases z : b = p
    · subst z; rw [upd_same, upd_same]; rfl
    · rw [upd_ne z, upd_ne z, upd_ne z]
  rw [e]
  exact k _ _ _ [] A s1 st1 (.s (.dic (kvs := [(x, c)]) (.inl upd_same) (by simp) fun h => by cases h)) st1.nd
include F in
theorem pd_popG (j : Nat) {x : Str} (hv0 : PD Xf K m v .s f m1) (hm : m[j]? = some (.l .s) := by rfl) (hm1 : m1[j]? = some (.l .s) := by rfl) (hN : ∀ i, (Xf i).N[j]? = some x := by intro _; rfl)
    (hv : ∀ i, Vis (Xf i).env.scope x := by first | (intro _; exact Or.inl rfl) | (intro _; exact Or.inr (Or.inl rfl)) | (intro _; exact Or.inr (Or.inr rfl))) (hd : (x == ("__debug__" : Str)) = false := by decide) (hcd : (x == ("__classdict__" : Str)) = false := by decide)
    (hbase : ∀ i, attributeBase (.Name x xp) "pop" (Xf i).env (eval (.Name x xp) (Xf i).env) = eval (.Name x xp) (Xf i).env := by intro _; rfl)
    (hfew : ∀ i, ((backTo cpos (starEach [v] (Xf i).env)).all (fun x => !x.1) && (backToKw cpos (keywordEach [] (Xf i).env)).all (fun x => x.1.isSome)
      && decide ([v].length + ([] : List Keyword).length + (if ([] : List Keyword).isEmpty then 0 else 1) < 30)) = true := by intro _; rfl)
    (hline : (apos.endLine == cpos.line) = true := by rfl) (hs : ∀ i, starEach [v] (Xf i).env = (false, eval v (Xf i).env) :: starEach [] (Xf i).env := by intro _; rfl) (hplain : ∀ i, (backTo cpos (starEach [] (Xf i).env)).any (·.1) = false := by intro _; rfl) :
    PD Xf K m (.Call (.Attribute (.Name x xp) "pop" apos) [v] [] cpos) .s (ePopG j f) m1 := by
  obtain ⟨tv, pv, dv⟩ := hv0.ex
  exact ⟨_, fun i => by have := pe_bm PySem.F.plainAttrs_list PySem.F.slot_list_pop PySem.F.type_list_pop (mt_popAt (X := Xf i)) (pe_var (hN i) (hv i) hd hcd) (pa_cons (pv i) pa_nil (hs i)) (hbase i) (hfew i) hline (hs i) (hplain i); rw [F.kk i] at this; exact this, DE.popG hm dv hm1⟩
include F in
theorem pd_ext (j : Nat) {x : Str} (hv0 : PD Xf K m v (.l .s) f m1) (hm : m[j]? = some (.l .s) := by rfl) (hm1 : m1[j]? = some (.l .s) := by rfl) (hN : ∀ i, (Xf i).N[j]? = some x := by intro _; rfl)
    (hv : ∀ i, Vis (Xf i).env.scope x := by first | (intro _; exact Or.inl rfl) | (intro _; exact Or.inr (Or.inl rfl)) | (intro _; exact Or.inr (Or.inr rfl))) (hd : (x == ("__debug__" : Str)) = false := by decide) (hcd : (x == ("__classdict__" : Str)) = false := by decide)
    (hbase : ∀ i, attributeBase (.Name x xp) "extend" (Xf i).env (eval (.Name x xp) (Xf i).env) = eval (.Name x xp) (Xf i).env := by intro _; rfl)
    (hfew : ∀ i, ((backTo cpos (starEach [v] (Xf i).env)).all (fun x => !x.1) && (backToKw cpos (keywordEach [] (Xf i).env)).all (fun x => x.1.isSome)
      && decide ([v].length + ([] : List Keyword).length + (if ([] : List Keyword).isEmpty then 0 else 1) < 30)) = true := by intro _; rfl)
    (hline : (apos.endLine == cpos.line) = true := by rfl) (hs : ∀ i, starEach [v] (Xf i).env = (false, eval v (Xf i).env) :: starEach [] (Xf i).env := by intro _; rfl) (hplain : ∀ i, (backTo cpos (starEach [] (Xf i).env)).any (·.1) = false := by intro _; rfl) :
    PD Xf K m (.Call (.Attribute (.Name x xp) "extend" apos) [v] [] cpos) .s (eExt j f) m1 := by
  obtain ⟨tv, pv, dv⟩ := hv0.ex
  exact ⟨_, fun i => by have := pe_bm PySem.F.plainAttrs_list PySem.F.slot_list_extend PySem.F.type_list_extend (mt_extend (X := Xf i)) (pe_var (hN i) (hv i) hd hcd) (pa_cons (pv i) pa_nil (hs i)) (hbase i) (hfew i) hline (hs i) (hplain i); rw [F.kk i] at this; exact this, DE.ext hm dv hm1⟩

variable {M : Mk} {spos : Pos}
def gAddI : PyData → PyData → Option PyData
  | .int i, .int j => some (.int (i + j))
  | _, _ => none
variable {k : Nat} {x : Str} {rty : Ty} {Fn : DFn} [FG : FamG Xf]
def gStr : PyData → Option PyData
  | .int i => if i.natAbs.log2 < 1920 ∧ (toString i : Str).length ≤ sizeLine then some (.str (toString i)) else none
  | .str z => some (.str z)
  | .bool b => some (.str (if b = true then "True" else "False"))
  | _ => none
theorem call_str_bool {X : Cx} : CallR X (.type "str") (fun xs H Q => ∃ b : Bool, xs = [.bl b] ∧ Q (.str (if b then "True" else "False")) H) := by
  intro pins s σ H vs us Q I r h
  obtain ⟨b, rfl, q⟩ := h
  obtain ⟨u, rfl, ru⟩ := vals1 r
  cases ru
  exact PySem.P.str_of_bool ⟨.str (if b then "True" else "False"), H, I.tok _, ⟨_, rfl⟩, q⟩
include F in
theorem clStr : Cl1 Xf K (.type "str") .s gStr := by
  refine ⟨_, fun i => CallR.or call_str_bool (CallR.or call_str_int SkE.call_str_str), fun {m G H σ e A x dx d Q} st hx ee k => ?_⟩
  cases dx with
  | int i =>
    obtain ⟨hz, rfl⟩ := ite_some ee
    obtain rfl := dq_int hx
    exact .inr (.inl ⟨i, rfl, hz.1, ans_s st (.str _ hz.2) k⟩)
  | str z =>
    cases ee
    obtain ⟨rfl, hz⟩ := dq_str hx
    exact .inr (.inr ⟨z, rfl, ans_s st (.str _ hz) k⟩)
  | bool b =>
    cases ee
    obtain rfl := dq_bool hx
    refine .inl ⟨b, rfl, ans_s st (.str _ ?_) k⟩
    cases b <;> decide
  | _ => cases ee
end
end DL

namespace DL
open PySem L2 PySem.Spec PyProof.Rows

/-! ### sets of ints that live for one expression: sorted(set(xs)), len(set(xs)) -/
abbrev newSetO (w : World) : Obj :=
  { cls := .type "set", dict := none,
    data := .set #[] 0 (.fresh 0 0 (!w.params.followText "set-order")) }
abbrev withSet (w : World) (s : Shared) : Shared := { s with heap := s.heap.push (newSetO w) }
section
variable {P : Program} {w : World} {A : Around} {E : Value → Shared → Prop} {s : Shared}
theorem set_of_list {l : Addr} {its : Array Value} (ns : List Int) {Q : Value → Shared → Prop} (h0 : A.handled = none) (hL : s.heap.IsList l its) (hI : IntsAre its.toList ns) (hz : ns.length + 1 < scanBound)
    (k : ∀ (h2 : Heap) (tk c : Nat), SetR w h2 s.heap.objs.size (fun j => decide (j ∈ ns)) c → c ≤ ns.length → (∀ b o, s.heap.get? b = some o → h2.get? b = some o) → Q (.ref s.heap.objs.size) { s with heap := h2, toks := tk }) :
    wpAny (model P w) A (call (.type "set") [.ref l]) Q E s := by
  have size_eq : its.size = ns.length := by have := IntsAre.length hI; rwa [Array.length_toList] at this
  obtain ⟨cc, ct, cmro⟩ := F.called_set.mro
  have c1 := F.called_set.made
  have c2 := F.called_set.sub
  refine wpAny_call ?_
  refine codeAny_of_tree ?_
  show wpAny _ _ (callAny (.type "set") _) _ _ _
  refine wpAny_pure ⟨Code.quiet_builtin _ (by decide +kernel), ?_⟩
  refine codeAny_builtin F.entry_type_call ?_
  rw [Around.under_plain (weight_type_call_type "set" [.ref l] []) rfl]
  have c3 := F.called_set.notType
  have c4 := F.called_set.canCreate
  have c5 := F.typeCall_set_1 (.ref l)
  repeat any_goals first | assumption | wp_step
  refine codeAny_mono (code_set_led1 (.ref l) (E := E) (Q₁ := fun v t => v = .ref s.heap.objs.size ∧ t = withSet w s) ⟨rfl, rfl⟩) fun r1 t1 hr => ?_
  cases r1 with
  | error e => exact hr
  | ok fl =>
    cases fl with
    | ret v =>
      obtain ⟨rfl, rfl⟩ := hr
      have here : (s.heap.push (newSetO w)).get? s.heap.objs.size = some (newSetO w) := Heap.get?_push_size _ rfl
      have ty : (withSet w s).TypeIs (.ref s.heap.objs.size) "set" := ⟨_, here, rfl⟩
      have i1 := F.called_set.init.lookup
      have i2 := F.called_set.init.bind (.ref s.heap.objs.size)
      repeat any_goals first | assumption | wp_step
      refine codeAny_mono (codeAny_call_builtin (R := wants (fun r t => r = .none ∧ ∃ h2 tk c, t = { s with heap := h2, toks := tk } ∧ SetR w h2 s.heap.objs.size (fun j => decide (j ∈ ns)) c ∧ c ≤ ns.length ∧
        ∀ b o, s.heap.get? b = some o → h2.get? b = some o) E) F.called_set.init.plain F.entry_set_init (check_set_init_1 ty ?_)) fun r2 t2 hr2 => ?_
      · obtain ⟨lo, lg, lc, ln, ld⟩ := hL
        obtain ⟨oc, od, oa, os⟩ := lo
        simp only at lc ld
        subst lc
        subst ld
        have lg2 : (s.heap.push (newSetO w)).get? l = some { cls := .type "list", dict := od, data := .seq its ln, slots := os } := Heap.get?_push_of_some _ lg
        have n1 := F.sub_list_set
        have n2 := F.sub_list_frozenset
        have n3 : (Value.type "list" == Value.type "dict") = false := by decide
        have lis : (s.heap.push (newSetO w)).IsList l its := ⟨_, lg2, rfl, ln, rfl⟩
        unfold Builtin.«set.__init__» noKeywords
        unfold Builtin.Frozenset.updateFrom
        generalize hit : pyIter = ITER
        wp_walk
        subst hit
        refine wpAny_pyIter_list lis (wpAny_bind (wpAny_runValue ?_))
        have below : l < s.heap.objs.size := Heap.lt_size lg
        have hh3 : A.in1.in1.in1.handled = none := by simp [h0]
        have pz : (s.heap.push (newSetO w)).objs.size = s.heap.objs.size + 1 := Heap.size_push ..
        have apart : l ≠ (s.heap.push (newSetO w)).objs.size := by rw [pz]; exact Nat.ne_of_lt (Nat.lt_succ_of_lt below)
        have out : s.heap.objs.size ∉ [(s.heap.push (newSetO w)).objs.size, l] := by
          rw [pz]
          intro hm
          rcases List.mem_cons.mp hm with z | z
          · exact absurd z (Nat.ne_of_lt (Nat.lt_succ_self _))
          · exact absurd (List.mem_singleton.mp z).symm (Nat.ne_of_lt below)
        have vals : ∀ (i : Nat) (v : Value), its[i]? = some v → ∃ k t, ns[i]? = some k ∧ v = .int k t := fun i v hv => by
          have hi : i < ns.length := by rw [← size_eq]; exact (Array.getElem?_eq_some_iff.mp hv).1
          obtain ⟨t, e⟩ := IntsAre.int_at hI i v (by rw [Array.getElem?_toList]; exact hv)
          exact ⟨ns[i], t, List.getElem?_eq_getElem hi, by rw [e, List.getD_eq_getElem?_getD, List.getElem?_eq_getElem hi]; rfl⟩
        refine set_update_ints ((Walks.list hh3 _ l apart its).toS) s.heap.objs.size out ns size_eq hz vals (its.size - 0) 0 _ (by omega) (Nat.zero_le _) ⟨⟨_, Heap.get?_push_size _ rfl, rfl, rfl⟩, lis.push _⟩ ⟨0, Nat.le_refl 0, setR_new_at (Heap.get?_push_of_some _ here)⟩ fun t c hm hc hS => ?_
        obtain ⟨h2, g2, d2, tk2, os2⟩ := t
        have eg : g2 = s.gens := hm.gens
        have ed : d2 = s.drawn := hm.drawn
        have eo : os2 = s.os := hm.os
        subst eg
        subst ed
        subst eo
        show wpAny _ _ _ _ _ _
        refine wpAny_pure ?_
        show wpAny _ _ (ret Value.none) _ _ _
        refine wpAny_pure ⟨rfl, h2, tk2, c, rfl, hS, by rw [← size_eq]; exact hc, fun b o e => ?_⟩
        have b1 : b < s.heap.objs.size := Heap.lt_size e
        refine hm.heap b o (fun z => ?_) (Heap.get?_push_of_some _ (Heap.get?_push_of_some _ e))
        rcases List.mem_cons.mp z with z | z
        · exact absurd z (Nat.ne_of_lt b1)
        · have z2 := List.mem_singleton.mp z
          rw [pz] at z2
          exact absurd z2 (Nat.ne_of_lt (Nat.lt_succ_of_lt b1))
      · cases r2 with
        | error e => exact hr2
        | ok fl2 =>
          cases fl2 with
          | ret v2 =>
            obtain ⟨rfl, h2, tk, c, rfl, hS, hc, hk⟩ := hr2
            repeat any_goals first | assumption | wp_step
            exact k _ _ _ hS hc hk
          | _ => exact hr2.elim
    | _ => exact hr.elim
/-- sorted(p) of a set of ints of any number -/
theorem sorted_of_set {p : Addr} {S : Int → Bool} {n : Nat} {Q : Value → Shared → Prop} (R : SetR w s.heap p S n) (h0 : A.handled = none)
    (k : ∀ t q (out : List Value) (c : Nat) (ns : List Int), (∀ b o, s.heap.get? b = some o → t.heap.get? b = some o) → t.gens = s.gens → t.os = s.os → s.heap.objs.size ≤ q →
      t.heap.get? q = some (seqObj "list" out.toArray c) → IntsAre out ns → ns.Pairwise (· < ·) → (∀ j, j ∈ ns ↔ S j = true) → ns.length = n → Q (.ref q) t) :
    wpAny (model P w) A (call (.builtin "sorted") [.ref p]) Q E s := by
  obtain ⟨o, es, ep, t, ho, hex, hd, good, nd, hm, hb, hf, hn, hr, hl⟩ := R
  refine Calls.call_function_entry kind_sorted plain_sorted entry_sorted (args_sorted1 _) ?_
  unfold Builtin.«sorted»
  refine wpAny_bind (m := checkCount "sorted" 1 1 _) ?_
  refine wpAny_pure ?_
  refine wpAny_bind (collect_set (A := A.in1) h0 ⟨o, ho, hex.1, hd⟩ hf hb hr hl fun s1 vs old zz g1 o1 pm => ?_)
  have lv : vs.length = n := by rw [pm.length_eq, List.length_map, Array.length_toList]; exact hn
  have shape : ∀ v ∈ vs, ∃ i t, v = Value.int i t := fun v hv => by
    obtain ⟨e, he, q⟩ := List.mem_map.mp (pm.mem_iff.mp hv)
    obtain ⟨i, tk, h1, _⟩ := good e he
    exact ⟨i, tk, by rw [← q]; exact h1⟩
  have hI := SrtO.ints_iv shape
  have pk : (vs.map SrtO.iv).Perm (es.toList.map keyOf) := by
    have q := pm.map SrtO.iv
    rw [List.map_map] at q
    refine q.trans (List.Perm.of_eq (List.map_congr_left fun e he => ?_))
    obtain ⟨i, tk, h1, _⟩ := good e he
    show SrtO.iv e.2 = keyOf e
    unfold keyOf
    rw [h1]; rfl
  have small : vs.length ≤ sizeLine := by rw [lv, ← hn]; exact fits_of_scanBound hb
  refine wpAny_bind (wpAny_newList ?_ small)
  have at1 : (s1.heap.push (seqObj "list" vs.toArray 0)).get? s1.heap.objs.size = some (seqObj "list" vs.toArray 0) := Heap.get?_push_size _ rfl
  refine wpAny_bind (wpAny_holding ?_)
  refine wpAny_call_entry slot_list_sort ⟨_, at1, rfl⟩ entry_list_sort (SrtO.list_sort_ord SrtO.swo_int at1 small (fun h2 => SrtO.ints_sortable hI h2) fun out a1 a2 => ⟨.none, rfl, ?_⟩) (args_list_sort _)
  obtain ⟨k1, k2, k3⟩ := SrtO.ints_out hI a1 a2
  obtain ⟨c, hc⟩ := sortedHeap_at (vs := vs) (out := out.toArray) at1
  have pn := k2.trans pk
  refine wpAny_pure ⟨_, rfl, k _ s1.heap.objs.size out c _ (fun b u e => ?_) g1 o1 zz hc k1 (lt_of_le_nodup _ k3 (pn.nodup_iff.mpr nd)) (fun j => by rw [pn.mem_iff, ← hm j]) (by rw [pn.length_eq, List.length_map, Array.length_toList]; exact hn)⟩
  have q := old b u e
  have lt := Heap.lt_size q
  show (sortedHeap (s1.heap.push (seqObj "list" vs.toArray 0)) s1.heap.objs.size vs out.toArray).get? b = some u
  rw [sortedHeap_old (Nat.ne_of_lt lt) (by rw [Heap.size_push]; exact Nat.lt_succ_of_lt lt)]
  exact Heap.get?_push_of_some _ q
end
theorem bt_set : bootBuiltins "set" = some (.type "set") := by decide +kernel
/-! the set as a kept object of one expression -/
def SetI (w : World) (q : Addr) (ns : List Int) : HO := .ext fun h => ∃ c, SetR w h q (fun j => decide (j ∈ ns)) c
def rSetOf (K : PySem.W.Frag) (w : World) : List V → Hp → VK → Prop := fun xs H Q => ∃ (p : Addr) (ns : List Int), xs = [.ref p] ∧ (SqL K H p (ns.map V.int) ∨ SqT K H p (ns.map V.int)) ∧ ns.length + 1 < scanBound ∧
  ∀ q, H q = none → Q (.ref q) (upd H q (SetI w q ns))
def rSortSet (w : World) : List V → Hp → VK → Prop := fun xs H Q => ∃ (q : Addr) (ns : List Int), xs = [.ref q] ∧ H q = some (SetI w q ns) ∧
  ∀ (ms : List Int) (p : Addr), ms.Pairwise (· < ·) → (∀ j, j ∈ ms ↔ j ∈ ns) → H p = none → Q (.ref p) (upd H p (.lst (ms.map V.int)))
theorem setI_new {P : Program} {w : World} {H : Hp} {h : Heap} {q : Addr} {ns : List Int} {c : Nat} (R : SetR w h q (fun j => decide (j ∈ ns)) c) : ObjOk P w H h q (SetI w q ns) := by
  obtain ⟨o, _, _, _, ho, _⟩ := id R
  exact ⟨⟨c, R⟩, ⟨o, ho⟩, fun h1 h2 ⟨c', R'⟩ k => ⟨c', R'.at k⟩⟩
section
variable {X : Cx}
theorem setI_get {pins : List (Addr × Obj)} {σ : L2.St} {H : Hp} {s : Shared} {q : Addr} {ns : List Int} (I : Inv X pins σ H s) (h : H q = some (SetI X.w q ns)) : ∃ c, SetR X.w s.heap q (fun j => decide (j ∈ ns)) c := (I.hok q _ h).1
theorem call_setOf (hc : X.calm = true) : CallR X (.type "set") (rSetOf X.K X.w) := by
  intro pins s σ H xs us Q I r h
  obtain ⟨p, ns, rfl, hs, hz, k⟩ := h
  rw [Vals.ref1 r]
  have fin : ∀ (h2 : Heap) (tk c : Nat), SetR X.w h2 s.heap.objs.size (fun j => decide (j ∈ ns)) c → (∀ b o, s.heap.get? b = some o → h2.get? b = some o) → ∃ x H', Inv X pins σ H' { s with heap := h2, toks := tk } ∧ RelV x (.ref s.heap.objs.size) ∧ Q x H' := fun h2 tk c R old =>
    ⟨.ref _, upd H s.heap.objs.size (SetI X.w s.heap.objs.size ns), I.laid (t' := tk) old (Nat.le_refl _) (setI_new R), rfl, k _ (I.hok.fresh (Nat.le_refl _))⟩
  rcases hs with hs | hs
  · obtain ⟨its, rv, hL, _⟩ := I.list hs
    exact set_of_list ns (I.ok.hd hc) hL.isList rv.ints hz fun h2 tk c R _ old => fin h2 tk c R old
  · obtain ⟨its, rv, hL, _⟩ := I.tuple hs
    exact call_set_tupI ns (I.ok.hd hc) hL rv.ints hz fun h2 tk c R _ old => fin h2 tk c R old
theorem call_sortSet (hc : X.calm = true) : CallR X (.builtin "sorted") (rSortSet X.w) := by
  intro pins s σ H xs us Q I r h
  obtain ⟨q, ns, rfl, hq, k⟩ := h
  rw [Vals.ref1 r]
  obtain ⟨c, R⟩ := setI_get I hq
  refine sorted_of_set R (I.ok.hd hc) fun t p out n ms old e1 e2 hp ho hi pw mem len => ?_
  have room : (ms.map V.int).length ≤ sizeLine := by
    rw [List.length_map, len]
    obtain ⟨_, es, _, _, _, _, _, _, _, _, b, _, e, _⟩ := R
    rw [← e]; exact fits_of_scanBound b
  have free : H p = none := I.hok.fresh hp
  have J : Inv X pins σ (upd H p (.lst (ms.map V.int))) { s with heap := t.heap, gens := t.gens, drawn := t.drawn, toks := t.toks } :=
    I.call (ch := []) (Un.laid old hp free) (I.hok.laid old hp ⟨room, out, n, vals_of_ints hi, ho⟩) (by rw [e1]; exact I.bare) fun _ z => by cases z
  obtain ⟨th, tg, td, tt, to⟩ := t
  cases e2
  exact ⟨.ref p, _, J, rfl, k ms p pw (fun j => by rw [mem j]; simp) free⟩
end
/-! the data's side -/
def insU (x : Int) : List Int → List Int
  | [] => [x]
  | y :: ys => if x < y then x :: y :: ys else if x = y then y :: ys else y :: insU x ys
def sortSet : List Int → List Int
  | [] => []
  | x :: xs => insU x (sortSet xs)
theorem insU_mem {x j : Int} : ∀ {l : List Int}, j ∈ insU x l ↔ j = x ∨ j ∈ l
  | [] => by simp [insU]
  | y :: ys => by
    unfold insU
    split
    · simp
    · split
      · rename_i h; subst h; simp
      · rw [List.mem_cons, insU_mem, List.mem_cons]
        constructor
        · rintro (h | h | h) <;> simp [h]
        · rintro (h | h | h) <;> simp [h]
theorem insU_lt {x : Int} : ∀ {l : List Int}, l.Pairwise (· < ·) → (insU x l).Pairwise (· < ·)
  | [], _ => by simp [insU]
  | y :: ys, h => by
    obtain ⟨h1, h2⟩ := List.pairwise_cons.mp h
    unfold insU
    split
    · rename_i hx
      exact List.pairwise_cons.mpr ⟨fun z hz => by
        rcases List.mem_cons.mp hz with e | hz
        · rw [e]; exact hx
        · exact Int.lt_trans hx (h1 z hz), h⟩
    · split
      · exact h
      · rename_i a b
        refine List.pairwise_cons.mpr ⟨fun z hz => ?_, insU_lt h2⟩
        rcases insU_mem.mp hz with e | hz
        · rw [e]; omega
        · exact h1 z hz
theorem sortSet_lt : ∀ l : List Int, (sortSet l).Pairwise (· < ·)
  | [] => List.Pairwise.nil
  | x :: xs => insU_lt (sortSet_lt xs)
theorem sortSet_mem {j : Int} : ∀ {l : List Int}, j ∈ sortSet l ↔ j ∈ l
  | [] => Iff.rfl
  | x :: xs => by rw [sortSet, insU_mem, sortSet_mem, List.mem_cons]
/-- rising rows with the same members are one row -/
theorem rising_one : ∀ {l m : List Int}, l.Pairwise (· < ·) → m.Pairwise (· < ·) → (∀ j, j ∈ l ↔ j ∈ m) → l = m
  | [], [], _, _, _ => rfl
  | [], y :: m, _, _, h => absurd ((h y).mpr (List.mem_cons_self ..)) (by simp)
  | x :: l, [], _, _, h => absurd ((h x).mp (List.mem_cons_self ..)) (by simp)
  | x :: l, y :: m, hl, hm, h => by
    obtain ⟨a1, a2⟩ := List.pairwise_cons.mp hl
    obtain ⟨b1, b2⟩ := List.pairwise_cons.mp hm
    have e : x = y := by
      rcases List.mem_cons.mp ((h x).mp (List.mem_cons_self ..)) with e | hx
      · exact e
      · rcases List.mem_cons.mp ((h y).mpr (List.mem_cons_self ..)) with e | hy
        · exact e.symm
        · have := a1 y hy; have := b1 x hx; omega
    subst e
    refine congrArg (x :: ·) (rising_one a2 b2 fun j => ⟨fun hj => ?_, fun hj => ?_⟩)
    · rcases List.mem_cons.mp ((h j).mp (List.mem_cons_of_mem _ hj)) with e | q
      · have := a1 j hj; omega
      · exact q
    · rcases List.mem_cons.mp ((h j).mpr (List.mem_cons_of_mem _ hj)) with e | q
      · have := b1 j hj; omega
      · exact q
def gSetOf : PyData → Option (List Int)
  | .list xs => (intsOf xs).bind fun ns => if ns.length < 4000 then some ns else none
  | .tuple xs => (intsOf xs).bind fun ns => if ns.length < 4000 then some ns else none
  | _ => none
def gSortSet (d : PyData) : Option PyData := (gSetOf d).map fun ns => .list ((sortSet ns).map .int)
section
variable {ι : Type} {Xf : ι → Cx} {P : Program} {w : World} {K : PySem.W.Frag} {mg : Str → Option Value} {base : Heap} {n : Nat} [F : Fam Xf P w K mg base n]
omit F in
theorem dqA_int {G : Hp} : ∀ ns : List Int, DqA K G (ns.map V.int) (ns.map PyData.int)
  | [] => DqA.nil
  | i :: ns => DqA.cons (.int i) (dqA_int ns)
omit F in
theorem setOf_in {G H : Hp} {x : V} {dx : PyData} {ns : List Int} (sub : Same G H) (h : Dq K G x dx) (e : gSetOf dx = some ns) : ∃ p, x = .ref p ∧ (SqL K H p (ns.map V.int) ∨ SqT K H p (ns.map V.int)) ∧ ns.length + 1 < scanBound := by
  have lim : ∀ {xs : List PyData}, ((intsOf xs).bind fun ns => if ns.length < 4000 then some ns else none) = some ns → intsOf xs = some ns ∧ ns.length < 4000 := fun q => by
    obtain ⟨ms, h1, h2⟩ := Option.bind_eq_some_iff.mp q
    obtain ⟨h3, rfl⟩ := ite_some h2
    exact ⟨h1, h3⟩
  cases dx with
  | list ds =>
    obtain ⟨h1, h2⟩ := lim e
    obtain ⟨a, xs, rfl, r1, _, q1⟩ := dq_lst h
    rw [ints_eq h1] at q1
    obtain rfl := dqA_ints q1
    exact ⟨a, rfl, .inl (.inl (same_rd sub r1)), by show _ < 4096; omega⟩
  | tuple ds =>
    obtain ⟨h1, h2⟩ := lim e
    obtain ⟨a, xs, rfl, r1, _, q1⟩ := dq_tup h
    rw [ints_eq h1] at q1
    obtain rfl := dqA_ints q1
    exact ⟨a, rfl, .inr (same_seqT sub r1), by show _ < 4096; omega⟩
  | _ => cases e
variable {m m1 : List Ty} {pos p pos2 p2 : Pos} {a : Expr} {f : Ef} {x y : Str}
include F
/-- sorted(set(a)) -/
theorem pd_sortSet [FG : FamG Xf] (hs : mg "sorted" = none) (vs : bootBuiltins "sorted" = some (.builtin "sorted")) (ht : mg "set" = none) (vt : bootBuiltins "set" = some (.type "set")) (ha : PD Xf K m a .s f m1) (gs : ∀ i, Gl (Xf i) "sorted" := by intro _; rfl) (gt : ∀ i, Gl (Xf i) "set" := by intro _; rfl)
    (he : ∀ i, starEach [a] (Xf i).env = (false, eval a (Xf i).env) :: starEach [] (Xf i).env := by intro _; rfl) (hpl : ∀ i, (backTo pos2 (starEach [] (Xf i).env)).any (·.1) = false := by intro _; rfl)
    (he2 : ∀ i, starEach [.Call (.Name "set" p2) [a] [] pos2] (Xf i).env = (false, eval (.Call (.Name "set" p2) [a] [] pos2) (Xf i).env) :: starEach [] (Xf i).env := by intro _; rfl) (hpl2 : ∀ i, (backTo pos (starEach [] (Xf i).env)).any (·.1) = false := by intro _; rfl) :
    PD Xf K m (.Call (.Name "sorted" p) [.Call (.Name "set" p2) [a] [] pos2] [] pos) (.l .s) (e1 gSortSet f) m1 := by
  obtain ⟨ta, pa, da⟩ := ha.ex
  have c1 : ∀ i, CallR (Xf i) (.type "set") (rSetOf K w) := fun i => by have := call_setOf (FG.calm i); rwa [F.kk i, F.w_ i] at this
  have c2 : ∀ i, CallR (Xf i) (.builtin "sorted") (rSortSet w) := fun i => by have := call_sortSet (FG.calm i); rwa [F.w_ i] at this
  refine ⟨_, fun i => pe_callB (c2 i) (gs i) (by rw [F.mg_ i]; exact hs) vs (pa_cons (pe_callTy (c1 i) (gt i) (by rw [F.mg_ i]; exact ht) vt (pa_cons (pa i) pa_nil (he i)) (by decide) (by decide) (he i) (hpl i)) pa_nil (he2 i)) (by decide) (by decide) (he2 i) (hpl2 i),
    DE.un (r := fun x H Q => rSetOf K w [x] H fun y H1 => rSortSet w [y] H1 Q) da ?_⟩
  intro m G H σ e A x dx d Q st hx ee k
  obtain ⟨ns, hn, rfl⟩ := Option.map_eq_some_iff.mp ee
  obtain ⟨p, rfl, hp, hz⟩ := setOf_in st.sub hx hn
  refine ⟨p, ns, rfl, hp, hz, fun q hq => ?_⟩
  obtain ⟨s1, st1, sg⟩ := new_s (o := SetI w q ns) st hq
  refine ⟨q, ns, rfl, upd_same, fun ms p2 hlt hmem hp2 => ?_⟩
  obtain rfl := rising_one hlt (sortSet_lt ns) fun j => (hmem j).trans sortSet_mem.symm
  have small : ((sortSet ns).map V.int).length ≤ sizeLine := by
    rw [List.length_map]
    have h1 : (sortSet ns).length ≤ ns.length := by
      have : ∀ l : List Int, (sortSet l).length ≤ l.length := fun l => by
        induction l with
        | nil => exact Nat.le_refl _
        | cons a l ih =>
          have : ∀ (x : Int) (l : List Int), (insU x l).length ≤ l.length + 1 := fun x l => by
            induction l with
            | nil => exact Nat.le_refl _
            | cons y l ih =>
              unfold insU
              split
              · exact Nat.le_refl _
              · split
                · exact Nat.le_succ _
                · simp only [List.length_cons]; omega
          have := this a (sortSet l)
          rw [sortSet, List.length_cons]; omega
      exact this ns
    have h2 : ns.length + 1 < 4096 := hz
    rw [sizeLine_eq]; omega
  exact ans_lst st1 (dqA_int _) small (fun G2 H2 v Av A2 s2 => k G2 H2 v Av A2 (s1.seq0 s2)) p2 hp2
end
end DL

namespace DL
open PySem L2 PySem.Spec

/-! ### dicts with int keys, owned by a slot -/
def isK (i : Int) : PyData → Bool
  | .int j => decide (j = i)
  | _ => false
def lookD (kvs : List (PyData × PyData)) (i : Int) : Option PyData := (kvs.find? fun p => isK i p.1).map (·.2)
def putD (kvs : List (PyData × PyData)) (i : Int) (x : PyData) : List (PyData × PyData) :=
  if (kvs.any fun p => isK i p.1) = true then kvs.map (fun p => if isK i p.1 = true then (p.1, x) else p) else kvs ++ [(.int i, x)]
def gDGet (d k : PyData) : Option PyData := match d, k with
  | .dict kvs, .int i => lookD kvs i
  | _, _ => none
def gDGet2 (d k z : PyData) : Option PyData := match d, k with
  | .dict kvs, .int i => some ((lookD kvs i).getD z)
  | _, _ => none
def gDPut (d k x : PyData) : Option PyData := match d, k with
  | .dict kvs, .int i => if kvs.length < sizeLine then some (.dict (putD kvs i x)) else none
  | _, _ => none
def kvD (p : Int × PyData) : PyData × PyData := (.int p.1, p.2)
def valI (ds : List (Int × PyData)) (i : Int) : Option PyData := (ds.find? fun p => decide (p.1 = i)).map (·.2)
def putI {α : Type} (ds : List (Int × α)) (i : Int) (x : α) : List (Int × α) :=
  if (ds.any fun p => decide (p.1 = i)) = true then ds.map (fun p => if p.1 = i then (p.1, x) else p) else ds ++ [(i, x)]
section
variable {K : PySem.W.Frag} {G H G1 H1 : Hp} {m m1 m2 mn : List Ty} {σ : St} {e : En} {A A1 : List Addr} {t : Ty} {ts : List Ty}
end
/-! the data's side -/
def eDGet (j : Nat) (f : Ef) : Ef := fun e => (f e).bind fun p => (gDGet (p.2.getD j .none) p.1).bind fun d => some (d, p.2)
def eDOp (g : PyData → PyData → Option PyData) (j : Nat) (f : Ef) : Ef := fun e => (f e).bind fun p => (g (p.2.getD j .none) p.1).bind fun d => some (d, p.2)
def eDGet2 (j : Nat) (f h : Ef) : Ef := fun e => (f e).bind fun p => (h p.2).bind fun q => (gDGet2 (q.2.getD j .none) p.1 q.1).bind fun d => some (d, q.2)
def sDPutD (j : Nat) (fi fv : Ef) : Sf := fun e => (fv e).bind fun p => (fi p.2).bind fun q => (gDPut (q.2.getD j .none) q.1 p.1).bind fun d => some (.nx, q.2.set j d)
section
variable {ι : Type} {Xf : ι → Cx} {P : Program} {w : World} {K : PySem.W.Frag} {mg : Str → Option Value} {base : Heap} {n : Nat} [F : Fam Xf P w K mg base n]
variable {m m1 m2 m3 : List Ty} {pos p p2 apos cpos xp : Pos} {a b c : Expr} {f g h : Ef}
variable {M : Mk} {spos pos' : Pos}
end
end DL

namespace DL
open PySem L2 PySem.Spec

/-! ### an owned list read as a whole: xs + ys; a place as a target -/
def gItm (j : Nat) (gi : Gq) : Gf := fun d e => (gi e).bind fun i => match e.getD j .none, i with
  | .list ds, .int k => (ixN ds.length k).map fun z => e.set j (.list (ds.set z d))
  | _, _ => none
section
variable {K : PySem.W.Frag} {G H G1 H1 : Hp} {m m1 m2 mn : List Ty} {σ : St} {e : En} {A A1 : List Addr} {t : Ty} {ts : List Ty}
end
section
variable {ι : Type} {Xf : ι → Cx} {P : Program} {w : World} {K : PySem.W.Frag} {mg : Str → Option Value} {base : Heap} {n : Nat} [F : Fam Xf P w K mg base n]
variable {m m1 m2 m3 : List Ty} {pos p p2 apos cpos xp : Pos} {a b c i : Expr} {f g h : Ef} {gi : Gq}
end
end DL

namespace DL
open PySem L2 PySem.Spec PyProof.Rows

/-! ### xs.index(x), xs.count(x), of lists and tuples -/
def okIx (ds : List PyData) (x : PyData) : Bool := decide (min (PyData.depthAll ds) x.depth ≤ 60) && (PyData.plainAll ds && x.plain)
def gIndexL (ds : List PyData) (x : PyData) : Option PyData := if (okIx ds x && ds.any fun y => PyData.eqv y x) = true then some (.int (((ds.map fun y => PyData.eqv y x).idxOf true : Nat) : Int)) else none
def gCountL (ds : List PyData) (x : PyData) : Option PyData := if okIx ds x = true then some (.int ((ds.countP fun y => PyData.eqv y x : Nat) : Int)) else none
def gIndex (d x : PyData) : Option PyData := match d with
  | .list ds => gIndexL ds x
  | .tuple ds => gIndexL ds x
  | _ => none
def gCount (d x : PyData) : Option PyData := match d with
  | .list ds => gCountL ds x
  | .tuple ds => gCountL ds x
  | _ => none
def tyN (K : PySem.W.Frag) (x : V) (H : Hp) : Prop := ∃ p ys, x = .ref p ∧ NdT K H p ys
section
variable {X : Cx} {pins : List (Addr × Obj)} {σ : L2.St} {H : Hp} {s : Shared} {Q : VK}
theorem tyN_is {x : V} {v : Value} (I : Inv X pins σ H s) (r : RelV x v) (ty : tyN X.K x H) : s.TypeIs v "tuple" ∧ ∀ a, v = .ref a → ∃ ob, s.heap.get? a = some ob ∧ ob.dict = none := by
  obtain ⟨p, ys, rfl, h⟩ := ty
  cases r
  rcases h with ⟨o, hc, hd, h⟩ | ⟨o, its, n, hk, hc, hd, _⟩
  · obtain ⟨e, _⟩ : s.heap.get? p = some o ∧ _ := I.hok p _ h
    exact ⟨⟨o, e, hc⟩, fun a z => by cases z; exact ⟨o, e, hd⟩⟩
  · have e := I.kIn p o hk
    exact ⟨⟨o, e, hc⟩, fun a z => by cases z; exact ⟨o, e, hd⟩⟩
theorem items_eq (I : Inv X pins σ H s) {A : Around} {ys : List V} {ds : List PyData} {its : List Value} {y : V} {u : Value} {dy : PyData} (q : DqA X.K H ys ds) (rv : Vals ys its) (qy : Dq X.K H y dy) (ry : RelV y u) (ok : okIx ds dy = true) (hu : A.units + 70 < cLine) :
    PySem.SeqAt.ItemsEq A.in1 s its (ds.map fun z => PyData.eqv z dy) u true := by
  unfold okIx at ok
  simp only [Bool.and_eq_true, decide_eq_true_eq] at ok
  obtain ⟨h60, hpl, hpy⟩ := ok
  have hl : its.length = ds.length := by rw [← rv.length, q.1]
  refine ⟨by rw [List.length_map]; exact hl, fun j h1 h2 => ?_⟩
  have hj : j < ds.length := by rw [← hl]; exact h1
  have hv : j < ys.length := by rw [q.1]; exact hj
  have qj := q.2 j _ _ (List.getElem?_eq_getElem hv) (List.getElem?_eq_getElem hj)
  obtain ⟨w, hw, rw'⟩ := rv.get (List.getElem?_eq_getElem hv)
  rw [List.getElem?_eq_getElem h1] at hw
  cases hw
  obtain ⟨as, ra⟩ := qj.reads I rw'
  obtain ⟨bs, rb⟩ := qy.reads I ry
  have hd : ds[j].depth ≤ PyData.depthAll ds := depthAll_mem (List.getElem_mem hj)
  have e := PySem.SeqAt.eqAt_plain ds[j] dy A.in1 s its[j] u _ _ ra rb (plain_mem hpl (List.getElem_mem hj)) hpy (by show A.units + 1 + min _ _ < cLine; omega)
  rw [List.getElem_map]
  simpa using e
def rIx (K : PySem.W.Frag) (sq : Hp → Addr → List V → Prop) : V → List V → Hp → VK → Prop := fun x xs H Q => ∃ p ys ds y dy, x = .ref p ∧ xs = [y] ∧ sq H p ys ∧ ys.length ≤ sizeLine ∧ DqA K H ys ds ∧ Dq K H y dy ∧ okIx ds dy = true ∧ (ds.any fun z => PyData.eqv z dy) = true ∧ Q (.int (((ds.map fun z => PyData.eqv z dy).idxOf true : Nat) : Int)) H
def rCt (K : PySem.W.Frag) (sq : Hp → Addr → List V → Prop) : V → List V → Hp → VK → Prop := fun x xs H Q => ∃ p ys ds y dy, x = .ref p ∧ xs = [y] ∧ sq H p ys ∧ DqA K H ys ds ∧ Dq K H y dy ∧ okIx ds dy = true ∧ Q (.int ((ds.countP fun z => PyData.eqv z dy : Nat) : Int)) H
theorem any_mem {ds : List PyData} {dy : PyData} (h : (ds.any fun z => PyData.eqv z dy) = true) : true ∈ ds.map fun z => PyData.eqv z dy := by
  obtain ⟨z, hz, e⟩ := List.any_eq_true.mp h
  exact List.mem_map.mpr ⟨z, hz, e⟩
theorem mt_idxL (hu : X.A.units + 70 < cLine) : MtR X "list.index" (rIx X.K (SqL X.K)) := by
  intro pins s σ H x xs v us Q I rx rs h
  obtain ⟨p, ys, ds, y, dy, rfl, rfl, hs, hz, q, qy, ok, ha, k⟩ := h
  cases rx
  obtain ⟨u, rfl, ru⟩ := vals1 rs
  obtain ⟨its, rv, pl, _⟩ := I.list hs
  exact PySem.SeqAt.call_list_index pl.isList (items_eq I q rv qy ru ok hu) (by rw [List.length_map, ← q.1]; exact hz) (any_mem ha) ⟨.int (((ds.map fun z => PyData.eqv z dy).idxOf true : Nat) : Int), H, I.tok _, ⟨_, rfl⟩, k⟩
theorem mt_idxT (hu : X.A.units + 70 < cLine) : MtR X "tuple.index" (rIx X.K (SqT X.K)) := by
  intro pins s σ H x xs v us Q I rx rs h
  obtain ⟨p, ys, ds, y, dy, rfl, rfl, hs, hz, q, qy, ok, ha, k⟩ := h
  cases rx
  obtain ⟨u, rfl, ru⟩ := vals1 rs
  obtain ⟨its, rv, pl, _⟩ := I.tuple hs
  exact PySem.SeqAt.call_tuple_index pl (items_eq I q rv qy ru ok hu) (any_mem ha) ⟨.int (((ds.map fun z => PyData.eqv z dy).idxOf true : Nat) : Int), H, I.tok _, ⟨_, rfl⟩, k⟩
theorem mt_ctL (hu : X.A.units + 70 < cLine) : MtR X "list.count" (rCt X.K (SqL X.K)) := by
  intro pins s σ H x xs v us Q I rx rs h
  obtain ⟨p, ys, ds, y, dy, rfl, rfl, hs, q, qy, ok, k⟩ := h
  cases rx
  obtain ⟨u, rfl, ru⟩ := vals1 rs
  obtain ⟨its, rv, pl, _⟩ := I.list hs
  unfold okIx at ok
  simp only [Bool.and_eq_true, decide_eq_true_eq] at ok
  obtain ⟨as, ra⟩ := q.reads I rv
  obtain ⟨bs, rb⟩ := qy.reads I ru
  exact PySem.SeqAt.count_list_data (vs := its.toArray) pl.isList (by simpa using ra) rb ok.2.1 ok.2.2 (by omega) ⟨.int ((ds.countP fun z => PyData.eqv z dy : Nat) : Int), H, I.tok _, ⟨_, rfl⟩, k⟩
theorem mt_ctT (hu : X.A.units + 70 < cLine) : MtR X "tuple.count" (rCt X.K (SqT X.K)) := by
  intro pins s σ H x xs v us Q I rx rs h
  obtain ⟨p, ys, ds, y, dy, rfl, rfl, hs, q, qy, ok, k⟩ := h
  cases rx
  obtain ⟨u, rfl, ru⟩ := vals1 rs
  obtain ⟨its, rv, pl, _⟩ := I.tuple hs
  unfold okIx at ok
  simp only [Bool.and_eq_true, decide_eq_true_eq] at ok
  obtain ⟨as, ra⟩ := q.reads I rv
  obtain ⟨bs, rb⟩ := qy.reads I ru
  exact PySem.SeqAt.count_tuple_data (vs := its.toArray) pl (by simpa using ra) rb ok.2.1 ok.2.2 (by omega) ⟨.int ((ds.countP fun z => PyData.eqv z dy : Nat) : Int), H, I.tok _, ⟨_, rfl⟩, k⟩
def tSeqM (K : PySem.W.Frag) (rL rT : V → List V → Hp → VK → Prop) (to : TE) (t : TA) : TE := fun σ H Q => to σ H fun x H1 =>
  (tyV K "list" x H1 ∧ t σ H1 fun xs H2 => rL x xs H2 Q) ∨ (tyN K x H1 ∧ t σ H1 fun xs H2 => rT x xs H2 Q)
theorem pe_seqM {o e : Expr} {to : TE} {t : TA} {name : Str} {apos cpos : Pos} {iL iT : String} {rL rT : V → List V → Hp → VK → Prop} (sL : Slot "list" name iL) (tL : typeOf (.builtin iL) = pure (.type "method_descriptor")) (mL : MtR X iL rL)
    (sT : Slot "tuple" name iT) (tT : typeOf (.builtin iT) = pure (.type "method_descriptor")) (mT : MtR X iT rT) (ho : PE X o to) (ha : PA X [e] t)
    (hbase : attributeBase o name X.env (eval o X.env) = eval o X.env)
    (hfew : ((backTo cpos (starEach [e] X.env)).all (fun x => !x.1) && (backToKw cpos (keywordEach [] X.env)).all (fun x => x.1.isSome)
      && decide ([e].length + ([] : List Keyword).length + (if ([] : List Keyword).isEmpty then 0 else 1) < 30)) = true)
    (hline : (apos.endLine == cpos.line) = true) (hs : starEach [e] X.env = (false, eval e X.env) :: starEach [] X.env) (hplain : (backTo cpos (starEach [] X.env)).any (·.1) = false) :
    PE X (.Call (.Attribute o name apos) [e] [] cpos) (tSeqM X.K rL rT to t) := by
  refine ⟨fun pins s σ H Q I h => ?_⟩
  refine wpAny_Call_method_late hbase hfew hline rfl (thn (ho.run pins s σ H _ I h) fun v s2 ⟨x, H1, I1, r1, q1⟩ => ?_)
  rcases q1 with ⟨ty, q1⟩ | ⟨ty, q1⟩
  · obtain ⟨h1, h2⟩ := tyV_is I1 r1 ty
    refine ⟨"list", iL, PySem.F.plainAttrs_list, sL, tL, h1, h2, ?_⟩
    have hA := ha.run cpos pins s2 σ H1 _ I1 q1
    rw [hs] at hA ⊢
    refine Calls.callWith_builtin (by show (false || (backTo cpos (starEach [] X.env)).any (·.1)) = false; rw [hplain]; rfl) (Calls.evalArgs_plain ?_)
    exact thn hA fun us s3 ⟨vs, H2, I2, r2, q2⟩ => mL pins s3 σ H2 x vs v us Q I2 r1 r2 q2
  · obtain ⟨h1, h2⟩ := tyN_is I1 r1 ty
    refine ⟨"tuple", iT, PySem.F.plainAttrs_tuple, sT, tT, h1, h2, ?_⟩
    have hA := ha.run cpos pins s2 σ H1 _ I1 q1
    rw [hs] at hA ⊢
    refine Calls.callWith_builtin (by show (false || (backTo cpos (starEach [] X.env)).any (·.1)) = false; rw [hplain]; rfl) (Calls.evalArgs_plain ?_)
    exact thn hA fun us s3 ⟨vs, H2, I2, r2, q2⟩ => mT pins s3 σ H2 x vs v us Q I2 r1 r2 q2
end
end DL
namespace DL
open PySem L2 PySem.Spec
section
variable {ι : Type} {Xf : ι → Cx} {P : Program} {w : World} {K : PySem.W.Frag} {mg : Str → Option Value} {base : Heap} {n : Nat} [F : Fam Xf P w K mg base n]
variable {m m1 m2 m3 : List Ty} {pos p p2 apos cpos xp : Pos} {a b c : Expr} {f g h : Ef}
include F in
theorem pd_index (ha : PD Xf K m a .s f m1) (hb : PD Xf K m1 b .s g m2) (hbase : ∀ i, attributeBase a "index" (Xf i).env (eval a (Xf i).env) = eval a (Xf i).env := by intro _; rfl)
    (hfew : ∀ i, ((backTo cpos (starEach [b] (Xf i).env)).all (fun x => !x.1) && (backToKw cpos (keywordEach [] (Xf i).env)).all (fun x => x.1.isSome)
      && decide ([b].length + ([] : List Keyword).length + (if ([] : List Keyword).isEmpty then 0 else 1) < 30)) = true := by intro _; rfl)
    (hline : (apos.endLine == cpos.line) = true := by rfl) (hs : ∀ i, starEach [b] (Xf i).env = (false, eval b (Xf i).env) :: starEach [] (Xf i).env := by intro _; rfl) (hplain : ∀ i, (backTo cpos (starEach [] (Xf i).env)).any (·.1) = false := by intro _; rfl) :
    PD Xf K m (.Call (.Attribute a "index" apos) [b] [] cpos) .s (e2 gIndex f g) m2 := by
  obtain ⟨ta, pa, da⟩ := ha.ex
  obtain ⟨tb, pb, db⟩ := hb.ex
  refine ⟨tSeqM K (rIx K (SqL K)) (rIx K (SqT K)) ta (tCons tb tNil), fun i => by
    have hu : (Xf i).A.units + 70 < cLine := by have := (F.room i).un; omega
    have mL := mt_idxL (X := Xf i) hu
    have mT := mt_idxT (X := Xf i) hu
    have := pe_seqM PySem.F.slot_list_index PySem.F.type_list_index mL PySem.F.slot_tuple_index PySem.F.type_tuple_index mT (pa i) (pa_cons (pb i) pa_nil (hs i)) (hbase i) (hfew i) hline (hs i) (hplain i)
    rwa [F.kk i] at this, fun {G H σ e A d e' Q} st hf k => ?_⟩
  obtain ⟨⟨d1, e1⟩, hf1, hf⟩ := Option.bind_eq_some_iff.mp hf
  obtain ⟨⟨d2, e2⟩, hf2, hf⟩ := Option.bind_eq_some_iff.mp hf
  obtain ⟨d3, hf3, hf⟩ := Option.bind_eq_some_iff.mp hf
  cases hf
  refine da st hf1 fun G1 H1 v1 A1 B1 s1 st1 o1 nd1 => ?_
  cases o1 with
  | s q1 =>
    have main : ∀ (ds : List PyData) (p : Addr) (ys : List V) (sq : Hp → Addr → List V → Prop), gIndexL ds d2 = some d → v1 = .ref p → (∀ G2 H2, Same G1 G2 → Same G2 H2 → sq H2 p ys) → ys.length ≤ sizeLine → DqA K G1 ys ds → (tCons tb tNil) σ H1 fun xs H2 => rIx K sq v1 xs H2 Q := fun ds p ys sq hg ev hsq hz q => by
      obtain ⟨hc, rfl⟩ := ite_some hg
      rw [Bool.and_eq_true] at hc
      refine db st1 hf2 fun G2 H2 v2 A2 B2 s2 st2 o2 nd2 => ?_
      cases o2 with
      | s q2 => exact ⟨p, ys, ds, v2, _, ev, rfl, hsq G2 H2 s2.sg st2.sub, hz, (q.mono s2.sg).mono st2.sub, q2.mono st2.sub, hc.1, hc.2, k _ _ _ _ _ (s1.seq0 s2) st2 (.s (.int _)) nd2⟩
    cases d1 with
    | list ds =>
      obtain ⟨p, ys, ev, r, hz, q⟩ := dq_lst q1
      subst ev
      exact .inl ⟨.inl ⟨rfl, _, .inl (same_rd st1.sub r)⟩, main ds p ys _ hf3 rfl (fun G2 H2 a b => .inl (same_rd b (same_rd a r))) hz q⟩
    | tuple ds =>
      obtain ⟨p, ys, ev, r, hz, q⟩ := dq_tupN q1
      subst ev
      exact .inr ⟨⟨p, ys, rfl, same_ndT st1.sub r⟩, main ds p ys _ hf3 rfl (fun G2 H2 a b => (same_ndT b (same_ndT a r)).sq) hz q⟩
    | _ => cases hf3
include F in
theorem pd_count (ha : PD Xf K m a .s f m1) (hb : PD Xf K m1 b .s g m2) (hbase : ∀ i, attributeBase a "count" (Xf i).env (eval a (Xf i).env) = eval a (Xf i).env := by intro _; rfl)
    (hfew : ∀ i, ((backTo cpos (starEach [b] (Xf i).env)).all (fun x => !x.1) && (backToKw cpos (keywordEach [] (Xf i).env)).all (fun x => x.1.isSome)
      && decide ([b].length + ([] : List Keyword).length + (if ([] : List Keyword).isEmpty then 0 else 1) < 30)) = true := by intro _; rfl)
    (hline : (apos.endLine == cpos.line) = true := by rfl) (hs : ∀ i, starEach [b] (Xf i).env = (false, eval b (Xf i).env) :: starEach [] (Xf i).env := by intro _; rfl) (hplain : ∀ i, (backTo cpos (starEach [] (Xf i).env)).any (·.1) = false := by intro _; rfl) :
    PD Xf K m (.Call (.Attribute a "count" apos) [b] [] cpos) .s (e2 gCount f g) m2 := by
  obtain ⟨ta, pa, da⟩ := ha.ex
  obtain ⟨tb, pb, db⟩ := hb.ex
  refine ⟨tSeqM K (rCt K (SqL K)) (rCt K (SqT K)) ta (tCons tb tNil), fun i => by
    have hu : (Xf i).A.units + 70 < cLine := by have := (F.room i).un; omega
    have mL := mt_ctL (X := Xf i) hu
    have mT := mt_ctT (X := Xf i) hu
    have := pe_seqM PySem.F.slot_list_count PySem.F.type_list_count mL PySem.F.slot_tuple_count PySem.F.type_tuple_count mT (pa i) (pa_cons (pb i) pa_nil (hs i)) (hbase i) (hfew i) hline (hs i) (hplain i)
    rwa [F.kk i] at this, fun {G H σ e A d e' Q} st hf k => ?_⟩
  obtain ⟨⟨d1, e1⟩, hf1, hf⟩ := Option.bind_eq_some_iff.mp hf
  obtain ⟨⟨d2, e2⟩, hf2, hf⟩ := Option.bind_eq_some_iff.mp hf
  obtain ⟨d3, hf3, hf⟩ := Option.bind_eq_some_iff.mp hf
  cases hf
  refine da st hf1 fun G1 H1 v1 A1 B1 s1 st1 o1 nd1 => ?_
  cases o1 with
  | s q1 =>
    have main : ∀ (ds : List PyData) (p : Addr) (ys : List V) (sq : Hp → Addr → List V → Prop), gCountL ds d2 = some d → v1 = .ref p → (∀ G2 H2, Same G1 G2 → Same G2 H2 → sq H2 p ys) → DqA K G1 ys ds → (tCons tb tNil) σ H1 fun xs H2 => rCt K sq v1 xs H2 Q := fun ds p ys sq hg ev hsq q => by
      obtain ⟨hc, rfl⟩ := ite_some hg
      refine db st1 hf2 fun G2 H2 v2 A2 B2 s2 st2 o2 nd2 => ?_
      cases o2 with
      | s q2 => exact ⟨p, ys, ds, v2, _, ev, rfl, hsq G2 H2 s2.sg st2.sub, (q.mono s2.sg).mono st2.sub, q2.mono st2.sub, hc, k _ _ _ _ _ (s1.seq0 s2) st2 (.s (.int _)) nd2⟩
    cases d1 with
    | list ds =>
      obtain ⟨p, ys, ev, r, hz, q⟩ := dq_lst q1
      subst ev
      exact .inl ⟨.inl ⟨rfl, _, .inl (same_rd st1.sub r)⟩, main ds p ys _ hf3 rfl (fun G2 H2 a b => .inl (same_rd b (same_rd a r))) q⟩
    | tuple ds =>
      obtain ⟨p, ys, ev, r, hz, q⟩ := dq_tupN q1
      subst ev
      exact .inr ⟨⟨p, ys, rfl, same_ndT st1.sub r⟩, main ds p ys _ hf3 rfl (fun G2 H2 a b => (same_ndT b (same_ndT a r)).sq) q⟩
    | _ => cases hf3
end
end DL

namespace DL
open PySem L2 PySem.Spec

/-! ### zip of three tuples -/
def zip3D : List PyData → List PyData → List PyData → List PyData
  | a :: as, b :: bs, c :: cs => .tuple [a, b, c] :: zip3D as bs cs
  | _, _, _ => []
section
variable {K : PySem.W.Frag} {G H : Hp} {m : List Ty} {σ : St} {e : En} {A : List Addr}
end
def zip3S : PyData → PyData → PyData → Option (List PyData)
  | .tuple xs, .tuple ys, .tuple us => some (zip3D xs ys us)
  | _, _, _ => none
def iZp3 (f g h : Ef) : Lf := fun e => (f e).bind fun p => (g p.2).bind fun q => (h q.2).bind fun r => (zip3S p.1 q.1 r.1).bind fun ds => some (ds, r.2)
section
variable {ι : Type} {Xf : ι → Cx} {P : Program} {w : World} {K : PySem.W.Frag} {mg : Str → Option Value} {base : Heap} {n : Nat} [F : Fam Xf P w K mg base n]
variable {m m1 m2 m3 : List Ty} {pos p p2 tpos : Pos} {a b c tg : Expr} {elts : List Expr} {kk : Nat} {f g h : Ef}
include F
end
@[simp] theorem riZp3 {f g h : Ef} {e : En} : iZp3 f g h e = (f e).bind fun p => (g p.2).bind fun q => (h q.2).bind fun r => (zip3S p.1 q.1 r.1).bind fun ds => some (ds, r.2) := rfl
@[simp] theorem xZip3 {xs ys us : List PyData} : zip3S (.tuple xs) (.tuple ys) (.tuple us) = some (zip3D xs ys us) := rfl
end DL

namespace DL
open PySem L2 PySem.Spec

/-! ### x[::2] -/
def evens {α : Type} : List α → List α
  | [] => []
  | [a] => [a]
  | a :: _ :: r => a :: evens r
section
open PyProof.Rows PySem.SeqAt PySem.MeetsSeq PySem.MeetsSeq2 PySem.MeetsSeq3 HT
variable {prog : Program} {w : World} {A : Around} {E : Value → Shared → Prop} {s : Shared}
end
section
open PyProof.Rows
end
def gTwo : PyData → Option PyData
  | .tuple xs => some (.tuple (evens xs))
  | _ => none
section
variable {ι : Type} {Xf : ι → Cx} {P : Program} {w : World} {K : PySem.W.Frag} {mg : Str → Option Value} {base : Heap} {n : Nat} [F : Fam Xf P w K mg base n]
variable {m m1 : List Ty} {a : Expr} {ef : Ef} {k : Nat} {p1 p3 pos : Pos}
end
@[simp] theorem xTwo {xs : List PyData} : gTwo (.tuple xs) = some (.tuple (evens xs)) := rfl
end DL

namespace DL
open PySem L2 PySem.Spec

section
variable {K : PySem.W.Frag} {M : Mk} {G H G1 H1 : Hp} {m m1 m2 mn : List Ty} {σ σ1 : St} {e : En} {A A1 : List Addr} {D : Ends} {e' : En} {o : Out} {t u : TS} {f g : Sf} {ef : Ef} {bf : Bf} {lf : Lf}
/-- a, b, c = x, y, z; the third is owned and moved -/
theorem DS.par3L {ta : TA} {i j l : Nat} {t3 : Ty} (ha : DA K m ta [.s, .s, t3] lf m1) (hi : i < m1.length) (hj : j < m1.length) (hl : l < m1.length) (pi : i ∉ M.po) (pj : j ∉ M.po) (pl : l ∉ M.po) : DS K M m (tPar3 i j l ta) (sPar3 i j l lf) (((m1.set i .s).set j .s).set l t3) := by
  intro G H σ e A o e' D st hf k
  obtain ⟨⟨ds, e1⟩, hf1, hf⟩ := Option.bind_eq_some_iff.mp hf
  refine ha st hf1 fun G1 H1 vs Av A1 s1 st1 o1 nd1 => ?_
  match vs, ds, hf, o1 with
  | [v, w, u], [x, y, z], hf, o1 =>
    cases hf
    cases o1 with
    | @cons _ _ _ _ _ _ A2 A3 p1 p2 =>
      cases p2 with
      | @cons _ _ _ _ _ _ A4 A5 p3 p4 =>
        cases p4 with
        | @cons _ _ _ _ _ _ A6 A7 p5 p6 =>
          cases p6
          cases p1 with
          | s q1 =>
            cases p3 with
            | s q3 =>
              simp only [List.nil_append, List.append_nil] at nd1 s1
              have n1 := List.nodup_append.mp nd1
              obtain ⟨B2, st2, hB2⟩ := stt_set st1 hi (.s q1) (Av := []) st1.nd
              obtain ⟨B3, st3, hB3⟩ := stt_set st2 (by rw [List.length_set]; exact hj) (.s q3) (Av := []) st2.nd
              obtain ⟨B4, st4, hB4⟩ := stt_set st3 (by rw [List.length_set, List.length_set]; exact hl) p5 (List.nodup_append.mpr ⟨n1.1, st3.nd, fun a ha b hb q => n1.2.2 a ha b (hB2 b (hB3 b hb)) q⟩)
              refine ⟨v, w, u, rfl, k G1 H1 _ B4 (s1.less fun a h => ?_) st4 (((Pin.set pi).trans (Pin.set pj)).trans (Pin.set pl))⟩
              rcases List.mem_append.mp (hB4 a h) with q | q
              · exact List.mem_append_left _ q
              · exact List.mem_append_right _ (hB2 a (hB3 a q))
  | [_], _, _, o1 => cases o1 with | cons _ p => cases p
  | [_, _], _, _, o1 => cases o1 with | cons _ p => cases p with | cons _ p => cases p
  | [], _, _, o1 => cases o1
  | _ :: _ :: _ :: _ :: _, _, _, o1 => cases o1 with | cons _ p => cases p with | cons _ p => cases p with | cons _ p => cases p
end
section
variable {ι : Type} {Xf : ι → Cx} {P : Program} {w : World} {K : PySem.W.Frag} {mg : Str → Option Value} {base : Heap} {n : Nat} [F : Fam Xf P w K mg base n]
variable {M : Mk} {m m1 m2 mn ml : List Ty} {pos p p2 spos xp : Pos} {a b c v tg iter : Expr} {st : Stmt} {rest body orelse : List Stmt} {f g : Sf} {ef eg : Ef} {bf : Bf} {lf : Lf} {gf : Gf} {sl : List Nat} {ty t1 t2 t3 : Ty}
include F in
theorem ds_par3T [FG : FamG Xf] (i j l : Nat) {L : List (Option Nat)} {x y z : Str} {px py pz pt pt2 : Pos} {kt k2} (ha : PAL Xf K m [a, b, c] [.s, .s, t3] L lf m1) (hi : i < m1.length := by first | decide | rfl | simp) (hj : j < m1.length := by first | decide | rfl | simp) (hl : l < m1.length := by first | decide | rfl | simp) (pi : i ∉ M.po := by first | decide | rfl | simp) (pj : j ∉ M.po := by first | decide | rfl | simp) (pl : l ∉ M.po := by first | decide | rfl | simp) (hij : i ≠ j := by decide) (hil : i ≠ l := by decide) (hjl : j ≠ l := by decide)
    (ni : ∀ q, (Xf q).N[i]? = some x := by intro _; rfl) (nj : ∀ q, (Xf q).N[j]? = some y := by intro _; rfl) (nl : ∀ q, (Xf q).N[l]? = some z := by intro _; rfl) (hx : ∀ q, (Xf q).env.scope.names.lookup x = some .local := by intro _; rfl) (hy : ∀ q, (Xf q).env.scope.names.lookup y = some .local := by intro _; rfl) (hz : ∀ q, (Xf q).env.scope.names.lookup z = some .local := by intro _; rfl)
    (hw : ∀ q, swappedStores [.Tuple [.Name x px, .Name y py, .Name z pz] kt pt] (.Tuple [a, b, c] k2 pt2) (Xf q).env = pure (some [x, y, z]) := by intro _; rfl) (hs : ∀ q, swapsWithSole [.Tuple [.Name x px, .Name y py, .Name z pz] kt pt] (.Tuple [a, b, c] k2 pt2) pos.line (Xf q).env = pure false := by intro _; rfl) :
    PSd Xf K M m (.Assign [.Tuple [.Name x px, .Name y py, .Name z pz] kt pt] (.Tuple [a, b, c] k2 pt2) pos) (sPar3 i j l lf) (((m1.set i .s).set j .s).set l t3) := by
  obtain ⟨t, p, d⟩ := ha.ex
  exact ⟨_, fun q => ps_par3 (FG.calm q) (F.nd q) (ni q) (nj q) (nl q) hij hil hjl (hx q) (hy q) (hz q) (p q) (hw q) (hs q), DS.par3L (fun st hf k => d st hf fun G' H' vs Av A' s st' o nd _ => k G' H' vs Av A' s st' o nd) hi hj hl pi pj pl⟩
end
end DL

namespace DL
open PySem L2 PySem.Spec

/-! ### a, b, .. = a list -/
def gTpL (k : Nat) (r : Gsf) : Gf := fun d e => match d with | .list ds => if ds.length = k then r ds e else none | _ => none
section
variable {ι : Type} {Xf : ι → Cx} {P : Program} {w : World} {K : PySem.W.Frag} {mg : Str → Option Value} {base : Heap} {n : Nat} [F : Fam Xf P w K mg base n]
variable {m m1 : List Ty} {tpos : Pos} {elts : List Expr} {sl : List Nat} {gs : Gsf}
include F in
theorem pg_tpL {k : Nat} (h : PGDs Xf K m elts sl gs m1) (hk : elts.length = k := by rfl) {kk : Nat} (hpg : ∀ i {t : TGs}, PGs (Xf i) elts t → PG (Xf i) (.Tuple elts kk tpos) (gUnl (Xf i).K k t) := by intro i t h; exact pg_unl (by rfl) h) : PGD Xf K false m (.Tuple elts kk tpos) sl (gTpL k gs) m1 := by
  obtain ⟨g, p, d⟩ := h.ex
  refine ⟨gUnl K k g, fun i => by have := hpg i (p i); rw [F.kk i] at this; exact this, fun {G H σ e A x dd e' Q} st q hf kont => ?_⟩
  cases dd with
  | list ds =>
    have hf : (if ds.length = k then gs ds e else none) = some e' := hf
    split at hf
    · rename_i hl
      obtain ⟨a, xs, rfl, r1, z1, qq⟩ := dq_lst q.strong
      exact ⟨a, xs, rfl, .inl (same_rd st.sub r1), by rw [qq.1]; exact hl, d st qq hf kont⟩
    · cases hf
  | _ => cases hf
end
def un2L : PyData → Option (PyData × PyData)
  | .list [a, b] => some (a, b)
  | _ => none
@[simp] theorem un2L_ok {x y : PyData} : un2L (.list [x, y]) = some (x, y) := rfl
@[simp] theorem rgTpL2 {gf gf2 : Gf} {d : PyData} {e : En} : gTpL 2 (gsCons gf (gsCons gf2 gsNil)) d e = (un2L d).bind fun p => (gf p.1 e).bind fun e => gf2 p.2 e := by
  unfold gTpL un2L
  cases d with
  | list ds =>
    match ds with
    | [] => rfl
    | [a] => rfl
    | [a, b] =>
      show ((gf a e).bind fun e => (gf2 b e).bind fun e => some e) = (gf a e).bind fun e => gf2 b e
      congr 1; funext e1
      cases gf2 b e1 <;> rfl
    | _ :: _ :: _ :: _ => rfl
  | _ => rfl
end DL

namespace DL
open PySem L2 PySem.Spec

/-! ### script[:c] -/
section
variable {ι : Type} {Xf : ι → Cx} {P : Program} {w : World} {K : PySem.W.Frag} {mg : Str → Option Value} {base : Heap} {n : Nat} [F : Fam Xf P w K mg base n]
variable {m : List Ty} {pos p p1 p2 : Pos}
include F in
theorem pd_slQ (j : Nat) {x : Str} {c : Int} {k : Nat} (hm : m[j]? = some .q := by rfl) (hN : ∀ i, (Xf i).N[j]? = some x := by intro _; rfl)
    (hv : ∀ i, Vis (Xf i).env.scope x := by first | (intro _; exact Or.inl rfl) | (intro _; exact Or.inr (Or.inl rfl)) | (intro _; exact Or.inr (Or.inr rfl))) (hd : (x == ("__debug__" : Str)) = false := by decide)
    (hcd : (x == ("__classdict__" : Str)) = false := by decide) : PD Xf K m (.Subscript (.Name x p) (.Slice none (some (.Constant (.int c) k p1)) none p2) pos) (.l .s) (eSlQ j none (some c)) m := by
  refine ⟨_, fun i => pe_slice (kkSl (fun X => sl_list) i) (pe_var (X := Xf i) (pos := p) (hN i) (hv i) hd hcd) po_none (po_some pe_int), fun {G H σ e A d e' Q} st hf kk => ?_⟩
  obtain ⟨d', v, Aj, A0, h1, h2, h3, _, _⟩ := ownA_take st.own hm
  obtain ⟨_, a, ns, rfl, rfl, hq, hz⟩ := own_q h3
  unfold eSlQ at hf
  rw [List.getD_eq_getElem?_getD, h1] at hf
  cases hf
  have q1 := dqA_nums (K := K) (G := G) ns
  exact ⟨.ref a, h2, c, rfl, a, _, rfl, same_seqL st.sub hq, ans_lst st (cut_dq q1 _ _) (Nat.le_trans (cutV_length _ _ _) (by rw [List.length_map]; exact hz)) kk⟩
end
end DL

namespace DL
open PySem L2 PySem.Spec

/-! ### {a: b, c: d}, int keys, owned -/
def gDisp2 (k1 v1 k2 v2 : PyData) : Option PyData := match k1, k2 with
  | .int i, .int j => some (.dict (putD (putD [] i v1) j v2))
  | _, _ => none
def eDisp2 (f1 f2 f3 f4 : Ef) : Ef := fun e => (f1 e).bind fun p1 => (f2 p1.2).bind fun p2 => (f3 p2.2).bind fun p3 => (f4 p3.2).bind fun p4 => (gDisp2 p1.1 p2.1 p3.1 p4.1).bind fun d => some (d, p4.2)
section
variable {ι : Type} {Xf : ι → Cx} {P : Program} {w : World} {K : PySem.W.Frag} {mg : Str → Option Value} {base : Heap} {n : Nat} [F : Fam Xf P w K mg base n]
variable {m m1 m2 m3 m4 : List Ty} {pos : Pos} {a b c d0 : Expr} {f1 f2 f3 f4 : Ef}
end
@[simp] theorem reDisp2 {f1 f2 f3 f4 : Ef} {e : En} : eDisp2 f1 f2 f3 f4 e = (f1 e).bind fun p1 => (f2 p1.2).bind fun p2 => (f3 p2.2).bind fun p3 => (f4 p3.2).bind fun p4 => (gDisp2 p1.1 p2.1 p3.1 p4.1).bind fun d => some (d, p4.2) := rfl
end DL

namespace DL
open PySem L2 PySem.Spec

/-! ### a module's tuple of texts -/
section
variable {ι : Type} {Xf : ι → Cx} {P : Program} {w : World} {K : PySem.W.Frag} {mg : Str → Option Value} {base : Heap} {n : Nat} [F : Fam Xf P w K mg base n]
variable {m : List Ty} {pos : Pos}
theorem dq_ctup1 {G : Hp} {a : Addr} {s : Str} {t : Tok} {c : Nat} {sl : Array (Option Value)} (hk : K.lookup a = some ⟨.type "tuple", none, .seq #[.str s t] c, sl⟩) (hs : s.length ≤ sizeLine) : Dq K G (.ref a) (.tuple [.str s]) := by
  have nd : NdT K G a [.str s] := .inr ⟨_, _, _, hk, rfl, rfl, rfl, by show 1 ≤ sizeLine; decide, .cons ⟨t, rfl⟩ .nil⟩
  have q : DqA K G [.str s] [.str s] := DqA.cons (.str s hs) DqA.nil
  exact .tup nd q.1 (by show 1 ≤ sizeLine; decide) q.2
include F
theorem pd_gtup1 {x s : Str} {a : Addr} {t : Tok} {c : Nat} {sl : Array (Option Value)} (hm : mg x = some (.ref a)) (hk : K.lookup a = some ⟨.type "tuple", none, .seq #[.str s t] c, sl⟩) (hs : s.length ≤ sizeLine := by decide) (hg : ∀ i, Gl (Xf i) x := by intro _; rfl) (hd : (x == ("__debug__" : Str)) = false := by decide) : PD Xf K m (.Name x pos) .s (eC (.tuple [.str s])) m :=
  ⟨_, fun j => pe_glob (v := .ref a) (hg j) (by rw [F.mg_ j]; exact hm) rfl hd, fun {G H σ e A d e' Q} st hf k => by cases hf; exact ans_s st (dq_ctup1 hk hs) k⟩
end
end DL

namespace DL
open PySem L2 PySem.Spec

/-! ### zip of a tuple and a list -/
section
variable {K : PySem.W.Frag} {G H : Hp} {m : List Ty} {σ : St} {e : En} {A : List Addr}
end
def zipMS : PyData → PyData → Option (List PyData)
  | .tuple xs, .list ys => some (zipD xs ys)
  | _, _ => none
def iZpM (f g : Ef) : Lf := fun e => (f e).bind fun p => (g p.2).bind fun q => (zipMS p.1 q.1).bind fun ds => some (ds, q.2)
section
variable {ι : Type} {Xf : ι → Cx} {P : Program} {w : World} {K : PySem.W.Frag} {mg : Str → Option Value} {base : Heap} {n : Nat} [F : Fam Xf P w K mg base n]
variable {m m1 m2 m3 : List Ty} {pos p p2 tpos : Pos} {a b c tg : Expr} {elts : List Expr} {kk : Nat} {f g h : Ef}
include F
end
@[simp] theorem riZpM {f g : Ef} {e : En} : iZpM f g e = (f e).bind fun p => (g p.2).bind fun q => (zipMS p.1 q.1).bind fun ds => some (ds, q.2) := rfl
@[simp] theorem xZipM {xs ys : List PyData} : zipMS (.tuple xs) (.list ys) = some (zipD xs ys) := rfl
end DL

namespace DL
open PySem L2 PySem.Spec

/-! ### -c as a quiet value -/
section
variable {ι : Type} {Xf : ι → Cx} {P : Program} {w : World} {K : PySem.W.Frag} {mg : Str → Option Value} {base : Heap} {n : Nat} [F : Fam Xf P w K mg base n]
variable {m : List Ty} {pos p1 : Pos}
end
end DL

namespace DL
open PySem L2 PySem.Spec

/-! ### plain words for what a def computes: no environment -/
def asB : PyData → Option Bool
  | .bool b => some b
  | _ => none
def ifB {α : Type} (v : PyData) (a b : Option α) : Option α := match v with
  | .bool true => a
  | .bool false => b
  | _ => none
def grd (b : Bool) : Option Unit := if b = true then some () else none
def un2 : PyData → Option (PyData × PyData)
  | .tuple [a, b] => some (a, b)
  | _ => none
def un3 : PyData → Option (PyData × PyData × PyData)
  | .tuple [a, b, c] => some (a, b, c)
  | _ => none
def un4 : PyData → Option (PyData × PyData × PyData × PyData)
  | .tuple [a, b, c, d] => some (a, b, c, d)
  | _ => none
def gApp (l x : PyData) : Option PyData := match l with
  | .list ds => if ds.length < sizeLine then some (.list (ds ++ [x])) else none
  | _ => none
def gPop : PyData → Option (PyData × PyData)
  | .list ds => (ds[ds.length - 1]?).bind fun x => some (x, .list ds.dropLast)
  | _ => none
def gSet (l i x : PyData) : Option PyData := match l, i with
  | .list ds, .int k => (ixN ds.length k).bind fun j => some (.list (ds.set j x))
  | _, _ => none
def gEn (d : PyData) : Option (List PyData) := (seqD d).bind fun ds => some (enumD 0 ds)
def consO {α : Type} : Option α → List α → List α
  | some y, ys => y :: ys
  | none, ys => ys
def mapS {α β : Type} : List α → (α → Option β) → Option (List β)
  | [], _ => some []
  | x :: xs, f => (f x).bind fun y => (mapS xs f).bind fun ys => some (y :: ys)
def filS {α β : Type} : List α → (α → Option (Option β)) → Option (List β)
  | [], _ => some []
  | x :: xs, f => (f x).bind fun y => (filS xs f).bind fun ys => some (consO y ys)
def foldS {α σ : Type} : List α → (α → σ → Option σ) → σ → Option σ
  | [], _, s => some s
  | x :: xs, f, s => (f x s).bind fun s' => foldS xs f s'
def forS {α σ : Type} : List α → (α → σ → Option (Out × σ)) → σ → Option (Out × σ)
  | [], _, s => some (.nx, s)
  | x :: xs, f, s => (f x s).bind fun p => match p.1 with
    | .nx => forS xs f p.2
    | .ct => forS xs f p.2
    | .bk => some (.nx, p.2)
    | .rt r => some (.rt r, p.2)
def whS {σ : Type} : Nat → (σ → Option Bool) → (σ → Option σ) → σ → Option σ
  | 0, _, _, _ => none
  | k + 1, c, f, s => (c s).bind fun b => if b = true then (f s).bind fun s' => whS k c f s' else some s
/-- what follows a loop that may have returned -/
def thenS {σ ρ : Type} (p : Out × σ) (k : σ → Option ρ) (r : PyData → σ → Option ρ) : Option ρ := match p.1 with
  | .rt d => r d p.2
  | _ => k p.2

/-! ### the environment's side is these words -/
def ctnx : Out → Out
  | .ct => .nx
  | o => o
theorem lc_map {vs : List Nat} {gf : Gf} {ef : Ef} {E : En} (f : PyData → Option PyData) (h : ∀ d, ((gf d E).bind fun e1 => (ef e1).bind fun q => some (q.1, restE E q.2 vs)) = (f d).bind fun r => some (r, E)) :
    ∀ xs, lcL vs gf bYes ef xs E = (mapS xs f).bind fun r => some (r, E)
  | [] => rfl
  | x :: xs => by
    have ih := lc_map f h xs
    have hx := h x
    unfold lcL mapS
    simp only [bYes, Option.bind_some, if_true]
    cases hf : f x with
    | none =>
      rw [hf] at hx
      simp only [Option.bind_none] at hx
      cases hg : gf x E with
      | none => rfl
      | some e1 =>
        rw [hg] at hx
        simp only [Option.bind_some, Option.bind_eq_none_iff] at hx
        cases he : ef e1 with
        | none => simp [he]
        | some q => exact absurd (hx q he) (by simp)
    | some y =>
      rw [hf] at hx
      cases hg : gf x E with
      | none => rw [hg] at hx; simp at hx
      | some e1 =>
        rw [hg] at hx
        simp only [Option.bind_some] at hx ⊢
        cases he : ef e1 with
        | none => rw [he] at hx; simp at hx
        | some q =>
          rw [he] at hx
          simp only [Option.bind_some, Option.some.injEq, Prod.mk.injEq] at hx ⊢
          rw [hx.2, ih, hx.1]
          cases mapS xs f <;> rfl
/-- one turn of a comprehension with a test -/
def lcB (vs : List Nat) (gf : Gf) (tf : Bf) (ef : Ef) (d : PyData) (E : En) : Option (Option PyData × En) :=
  (gf d E).bind fun e1 => (tf e1).bind fun p => if p.1 = true then (ef p.2).bind fun q => some (some q.1, restE E q.2 vs) else some (none, restE E p.2 vs)
theorem lcL_B {vs : List Nat} {gf : Gf} {tf : Bf} {ef : Ef} {x : PyData} {xs : List PyData} {E : En} : lcL vs gf tf ef (x :: xs) E = (lcB vs gf tf ef x E).bind fun p => (lcL vs gf tf ef xs p.2).bind fun r => some (consO p.1 r.1, r.2) := by
  show ((gf x E).bind fun e1 => (tf e1).bind fun p => if p.1 = true then (ef p.2).bind fun q => (lcL vs gf tf ef xs (restE E q.2 vs)).bind fun r => some (q.1 :: r.1, r.2) else lcL vs gf tf ef xs (restE E p.2 vs)) = _
  unfold lcB
  cases gf x E with
  | none => rfl
  | some e1 =>
    simp only [Option.bind_some]
    cases tf e1 with
    | none => rfl
    | some p =>
      simp only [Option.bind_some]
      split
      · cases ef p.2 <;> rfl
      · simp only [Option.bind_some]
        cases lcL vs gf tf ef xs (restE E p.2 vs) <;> rfl
theorem lc_fil {vs : List Nat} {gf : Gf} {tf : Bf} {ef : Ef} {E : En} (f : PyData → Option (Option PyData)) (h : ∀ d, lcB vs gf tf ef d E = (f d).bind fun r => some (r, E)) :
    ∀ xs, lcL vs gf tf ef xs E = (filS xs f).bind fun r => some (r, E)
  | [] => rfl
  | x :: xs => by
    rw [lcL_B, h x]
    unfold filS
    cases hf : f x with
    | none => rfl
    | some y =>
      simp only [Option.bind_some]
      rw [lc_fil f h xs]
      cases filS xs f <;> rfl
theorem for_fold {σ : Type} {gf : Gf} {sf : Sf} (emb : σ → En) (f : PyData → σ → Option σ) (h : ∀ d s, ((gf d (emb s)).bind fun e1 => (sf e1).bind fun p => some (ctnx p.1, p.2)) = (f d s).bind fun r => some (.nx, emb r)) :
    ∀ xs s, forL gf sf xs (emb s) = (foldS xs f s).bind fun r => some (.nx, emb r)
  | [], s => rfl
  | x :: xs, s => by
    have hx := h x s
    unfold forL foldS
    cases hg : gf x (emb s) with
    | none =>
      rw [hg] at hx
      cases hf : f x s with
      | none => rfl
      | some y => rw [hf] at hx; simp at hx
    | some e1 =>
      rw [hg] at hx
      simp only [Option.bind_some] at hx ⊢
      cases he : sf e1 with
      | none =>
        rw [he] at hx
        cases hf : f x s with
        | none => rfl
        | some y => rw [hf] at hx; simp at hx
      | some p =>
        rw [he] at hx
        cases hf : f x s with
        | none => rw [hf] at hx; simp at hx
        | some y =>
          rw [hf] at hx
          simp only [Option.bind_some, Option.some.injEq, Prod.mk.injEq] at hx ⊢
          have ih := for_fold emb f h xs y
          obtain ⟨o, e2⟩ := p
          simp only at hx ⊢
          rw [hx.2]
          cases o with
          | nx => exact ih
          | ct => exact ih
          | bk => cases hx.1
          | rt d => cases hx.1
theorem for_ret {σ : Type} {gf : Gf} {sf : Sf} {jr : List Nat} (emb : σ → En) (f : PyData → σ → Option (Out × σ)) (h : ∀ d s, ((gf d (emb s)).bind fun e1 => (sf e1).bind fun p => some (ctnx p.1, p.2)) = (f d s).bind fun r => some (ctnx r.1, outE [] jr r.1 (emb r.2))) :
    ∀ xs s, forL gf sf xs (emb s) = (forS xs f s).bind fun r => thenS r (fun s' => some (.nx, emb s')) (fun d s' => some (.rt d, fgE jr (emb s')))
  | [], s => rfl
  | x :: xs, s => by
    have hx := h x s
    unfold forL forS
    cases hg : gf x (emb s) with
    | none =>
      rw [hg] at hx
      cases hf : f x s with
      | none => rfl
      | some y => rw [hf] at hx; simp at hx
    | some e1 =>
      rw [hg] at hx
      simp only [Option.bind_some] at hx ⊢
      cases he : sf e1 with
      | none =>
        rw [he] at hx
        cases hf : f x s with
        | none => rfl
        | some y => rw [hf] at hx; simp at hx
      | some p =>
        rw [he] at hx
        cases hf : f x s with
        | none => rw [hf] at hx; simp at hx
        | some y =>
          rw [hf] at hx
          simp only [Option.bind_some, Option.some.injEq, Prod.mk.injEq] at hx ⊢
          have ih := for_ret emb f h xs y.2
          obtain ⟨o, e2⟩ := p
          obtain ⟨q, s2⟩ := y
          simp only at hx ih ⊢
          rw [hx.2]
          cases q <;> cases o <;> first | (cases hx.1; done) | exact ih | (have := hx.1; simp [ctnx] at this; done) | skip
          · rfl
          · have := hx.1; simp only [ctnx, Out.rt.injEq] at this; subst this; rfl
theorem wh_fold {σ : Type} {cf : Bf} {sf : Sf} (emb : σ → En) (c : σ → Option Bool) (f : σ → Option σ) (hc : ∀ s, cf (emb s) = (c s).bind fun b => some (b, emb s)) (h : ∀ s, ((sf (emb s)).bind fun p => some (ctnx p.1, p.2)) = (f s).bind fun r => some (.nx, emb r)) :
    ∀ n s, whL cf sf n (emb s) = (whS n c f s).bind fun r => some (.nx, emb r)
  | 0, s => rfl
  | n + 1, s => by
    have hx := h s
    unfold whL whS
    rw [hc]
    cases hcs : c s with
    | none => rfl
    | some b =>
      simp only [Option.bind_some]
      cases b with
      | false => rfl
      | true =>
        simp only [if_true]
        cases he : sf (emb s) with
        | none =>
          rw [he] at hx
          cases hf : f s with
          | none => rfl
          | some y => rw [hf] at hx; simp at hx
        | some p =>
          rw [he] at hx
          cases hf : f s with
          | none => rw [hf] at hx; simp at hx
          | some y =>
            rw [hf] at hx
            simp only [Option.bind_some, Option.some.injEq, Prod.mk.injEq] at hx ⊢
            have ih := wh_fold emb c f hc h n y
            obtain ⟨o, e2⟩ := p
            simp only at hx ⊢
            rw [hx.2]
            cases o with
            | nx => exact ih
            | ct => exact ih
            | bk => cases hx.1
            | rt d => cases hx.1
end DL

namespace DL
open PySem L2 PySem.Spec

/-! ### the environment's side, run -/
def seqR (p : Out × En) (k : En → Option (Out × En)) : Option (Out × En) := match p.1 with
  | .nx => k p.2
  | o => some (o, p.2)
def retR (ptys : List Ty) (ds : List PyData) (p : Out × En) : Option (PyData × List PyData) := match p.1 with
  | .rt d => some (d, fins ptys ds p.2)
  | .nx => some (.none, fins ptys ds p.2)
  | _ => none
def two {α : Type} (xs : List PyData) (k : PyData → PyData → Option α) : Option α := match xs with
  | [x, y] => k x y
  | _ => none
def three {α : Type} (xs : List PyData) (k : PyData → PyData → PyData → Option α) : Option α := match xs with
  | [x, y, z] => k x y z
  | _ => none
def gLenL : PyData → Option PyData
  | .list xs => some (.int xs.length)
  | _ => none
section
variable {f g h : Ef} {a b : Ef} {e e' e1 e2 : En} {j : Nat} {d d1 d2 : PyData} {fb gb : Bf} {fr : Lf} {sf sg : Sf} {fq gq gi : Gq} {pt : Pf} {gf gf2 gf3 gf4 : Gf} {gs : Gsf} {o : Out} {α β : Type}
@[simp] theorem seqR_nx {k : En → Option (Out × En)} : seqR (.nx, e) k = k e := rfl
@[simp] theorem seqR_bk {k : En → Option (Out × En)} : seqR (.bk, e) k = some (.bk, e) := rfl
@[simp] theorem seqR_ct {k : En → Option (Out × En)} : seqR (.ct, e) k = some (.ct, e) := rfl
@[simp] theorem seqR_rt {k : En → Option (Out × En)} : seqR (.rt d, e) k = some (.rt d, e) := rfl
@[simp] theorem retR_nx {ptys : List Ty} {ds : List PyData} : retR ptys ds (.nx, e) = some (.none, fins ptys ds e) := rfl
@[simp] theorem retR_rt {ptys : List Ty} {ds : List PyData} : retR ptys ds (.rt d, e) = some (d, fins ptys ds e) := rfl
@[simp] theorem two_ok {x y : PyData} {k : PyData → PyData → Option α} : two [x, y] k = k x y := rfl
@[simp] theorem three_ok {x y z : PyData} {k : PyData → PyData → PyData → Option α} : three [x, y, z] k = k x y z := rfl
@[simp] theorem ctnx_nx : ctnx .nx = .nx := rfl
@[simp] theorem ctnx_ct : ctnx .ct = .nx := rfl
@[simp] theorem ctnx_bk : ctnx .bk = .bk := rfl
@[simp] theorem ctnx_rt : ctnx (.rt d) = .rt d := rfl
@[simp] theorem outE_rt {js jr : List Nat} : outE js jr (.rt d) e = fgE jr e := rfl
@[simp] theorem outE_nx {js jr : List Nat} : outE js jr .nx e = fgE js e := rfl
@[simp] theorem outE_bk {js jr : List Nat} : outE js jr .bk e = fgE js e := rfl
@[simp] theorem outE_ct {js jr : List Nat} : outE js jr .ct e = fgE js e := rfl
@[simp] theorem fgE_nil : fgE [] e = e := rfl
@[simp] theorem fgE_cons {js : List Nat} : fgE (j :: js) e = fgE js (e.set j .none) := rfl
theorem ite_bind' {c : Prop} [Decidable c] {x y : Option α} {k : α → Option β} : (if c then x else y).bind k = if c then x.bind k else y.bind k := by split <;> rfl
theorem ifB_bind {v : PyData} {x y : Option α} {k : α → Option β} : (ifB v x y).bind k = ifB v (x.bind k) (y.bind k) := by
  unfold ifB
  split <;> rfl
theorem thenS_bind {σ : Type} {p : Out × σ} {K : σ → Option α} {R : PyData → σ → Option α} {k : α → Option β} : (thenS p K R).bind k = thenS p (fun s => (K s).bind k) (fun d s => (R d s).bind k) := by
  unfold thenS
  split <;> rfl
@[simp] theorem thenS_nx {σ : Type} {s : σ} {K : σ → Option α} {R : PyData → σ → Option α} : thenS (.nx, s) K R = K s := rfl
@[simp] theorem thenS_rt {σ : Type} {s : σ} {K : σ → Option α} {R : PyData → σ → Option α} : thenS (.rt d, s) K R = R d s := rfl
@[simp] theorem rVar : eVar j e = some (e.getD j .none, e) := rfl
@[simp] theorem rC : eC d e = some (d, e) := rfl
@[simp] theorem r1 {gg : PyData → Option PyData} : DL.e1 gg a e = (a e).bind fun p => (gg p.1).bind fun r => some (r, p.2) := rfl
@[simp] theorem r2 {gg : PyData → PyData → Option PyData} : DL.e2 gg a b e = (a e).bind fun p => (b p.2).bind fun q => (gg p.1 q.1).bind fun r => some (r, q.2) := rfl
@[simp] theorem rTup : eTup fr e = (fr e).bind fun p => some (.tuple p.1, p.2) := rfl
@[simp] theorem rLst : eLst fr e = (fr e).bind fun p => some (.list p.1, p.2) := rfl
@[simp] theorem rlNil : lNil e = some ([], e) := rfl
@[simp] theorem rlCons : lCons f fr e = (f e).bind fun p => (fr p.2).bind fun q => some (p.1 :: q.1, q.2) := rfl
@[simp] theorem rLend : eLend e = some (.none, e) := rfl
@[simp] theorem rCall {Fn : DFn} : eCall Fn fr e = (fr e).bind fun p => (Fn p.1).bind fun q => some (q.1, p.2) := rfl
@[simp] theorem rCallL {Fn : DFn} {k : Nat} : eCallL Fn k j fr e = (fr e).bind fun p => (Fn (p.1.set k (p.2.getD j .none))).bind fun q => some (q.1, p.2.set j (q.2.getD k .none)) := rfl
@[simp] theorem rCallL2 {Fn : DFn} {k1 j1 k2 j2 : Nat} : eCallL2 Fn k1 j1 k2 j2 fr e = (fr e).bind fun p => (Fn ((p.1.set k1 (p.2.getD j1 .none)).set k2 (p.2.getD j2 .none))).bind fun q => some (q.1, (p.2.set j2 (q.2.getD k2 .none)).set j1 (q.2.getD k1 .none)) := rfl
@[simp] theorem rbOf : bOf f e = (f e).bind fun p => (gTruth p.1).bind fun b => some (b, p.2) := rfl
@[simp] theorem rbT : bT f e = (f e).bind fun p => (asB p.1).bind fun b => some (b, p.2) := by
  show ((f e).bind fun p => match p.1 with | .bool b => some (b, p.2) | _ => none : Option (Bool × En)) = _
  congr 1; funext p; cases p.1 <;> rfl
@[simp] theorem rbAnd : bAnd fb gb e = (fb e).bind fun p => if p.1 = true then gb p.2 else some (false, p.2) := rfl
@[simp] theorem rbOr : bOr fb gb e = (fb e).bind fun p => if p.1 = true then some (true, p.2) else gb p.2 := rfl
@[simp] theorem rbNot : bNot fb e = (fb e).bind fun p => some (!p.1, p.2) := rfl
@[simp] theorem reAnd : eAnd f g e = (f e).bind fun p => ifB p.1 (g p.2) (some (.bool false, p.2)) := by
  show ((f e).bind fun p => match p.1 with
    | .bool true => g p.2
    | .bool false => some (.bool false, p.2)
    | _ => none : Option (PyData × En)) = _
  congr 1
@[simp] theorem reOr : eOr f g e = (f e).bind fun p => ifB p.1 (some (.bool true, p.2)) (g p.2) := by
  show ((f e).bind fun p => match p.1 with
    | .bool true => some (.bool true, p.2)
    | .bool false => g p.2
    | _ => none : Option (PyData × En)) = _
  congr 1
@[simp] theorem reIf : eIf fb f g e = (fb e).bind fun p => if p.1 = true then f p.2 else g p.2 := rfl
@[simp] theorem rChain {g1 g2 : PyData → PyData → Option PyData} : eChain g1 g2 f g h e = (f e).bind fun p => (g p.2).bind fun q => (g1 p.1 q.1).bind fun r => ifB r ((h q.2).bind fun t => (g2 q.1 t.1).bind fun z => some (z, t.2)) (some (.bool false, q.2)) := by
  show ((f e).bind fun p => (g p.2).bind fun q => (g1 p.1 q.1).bind fun r => match r with
    | .bool true => (h q.2).bind fun t => (g2 q.1 t.1).bind fun z => some (z, t.2)
    | .bool false => some (.bool false, q.2)
    | _ => none : Option (PyData × En)) = _
  congr 1
@[simp] theorem rqVar : qVar j e = some (e.getD j .none) := rfl
@[simp] theorem rqC : qC d e = some d := rfl
@[simp] theorem rq1 {gg : PyData → Option PyData} : DL.q1 gg fq e = (fq e).bind gg := rfl
@[simp] theorem rq2 {gg : PyData → PyData → Option PyData} : DL.q2 gg fq gq e = (fq e).bind fun x => (gq e).bind fun y => gg x y := rfl
@[simp] theorem reQ : eQ fq e = (fq e).bind fun d => (grd (scD d)).bind fun _ => some (d, e) := by
  show ((fq e).bind fun d => if scD d = true then some (d, e) else none) = _
  congr 1; funext d; unfold grd; split <;> rfl
@[simp] theorem rbQ : bQ fq e = (fq e).bind fun d => (gTruth d).bind fun b => some (b, e) := by
  show ((fq e).bind fun d => (gTruth d).map fun b => (b, e)) = _
  congr 1; funext d; cases gTruth d <;> rfl
@[simp] theorem rbQT : bQT fq e = (fq e).bind fun d => (asB d).bind fun b => some (b, e) := by
  show ((fq e).bind fun d => match d with | .bool b => some (b, e) | _ => none : Option (Bool × En)) = _
  congr 1; funext d; cases d <;> rfl
@[simp] theorem rqS : qS fq e = (fq e).bind fun d => (grd (scD d)).bind fun _ => some d := by
  show ((fq e).bind fun d => if scD d = true then some d else none) = _
  congr 1; funext d; unfold grd; split <;> rfl
@[simp] theorem rpVar : pVar j e d = e.set j d := rfl
@[simp] theorem rSub1 : gSub1 gq gi e = (gq e).bind fun d => (gi e).bind fun i => itemD d i := rfl
@[simp] theorem rpSub1 : pSub1 gq gi pt e d = pt e (setD ((gq e).getD .none) ((gi e).getD .none) d) := rfl
@[simp] theorem rItm : eItm gq gi e = (gq e).bind fun d => (gi e).bind fun i => (itemD d i).bind fun x => some (x, e) := by
  show ((gq e).bind fun d => (gi e).bind fun i => (itemD d i).map fun x => (x, e)) = _
  congr 1; funext d; congr 1; funext i; cases itemD d i <;> rfl
@[simp] theorem rItmG : eItmG j f e = (f e).bind fun p => (itemD (p.2.getD j .none) p.1).bind fun x => some (x, p.2) := by
  show ((f e).bind fun p => (itemD (p.2.getD j .none) p.1).map fun x => (x, p.2)) = _
  congr 1; funext p; cases itemD (p.2.getD j .none) p.1 <;> rfl
@[simp] theorem rApp : eApp j f e = (f e).bind fun p => (gApp (e.getD j .none) p.1).bind fun l => some (.none, p.2.set j l) := by
  show ((f e).bind fun p => match e.getD j .none with
    | .list ds => if ds.length < sizeLine then some (.none, p.2.set j (.list (ds ++ [p.1]))) else none
    | _ => none : Option (PyData × En)) = _
  congr 1; funext p
  unfold gApp
  cases e.getD j .none with
  | list ds => show (if _ then _ else _) = (if _ then _ else _ : Option PyData).bind _; split <;> rfl
  | _ => rfl
@[simp] theorem rAppV : eAppV gq pt gi e = (gq e).bind fun d => (gi e).bind fun x => (gApp d x).bind fun l => some (.none, pt e l) := by
  show ((gq e).bind fun d => (gi e).bind fun x => match d with
    | .list ds => if ds.length < sizeLine then some (.none, pt e (.list (ds ++ [x]))) else none
    | _ => none : Option (PyData × En)) = _
  congr 1; funext d; congr 1; funext x
  unfold gApp
  cases d with
  | list ds => show (if _ then _ else _) = (if _ then _ else _ : Option PyData).bind _; split <;> rfl
  | _ => rfl
@[simp] theorem rPop : ePop gq pt e = (gq e).bind fun d => (gPop d).bind fun p => some (p.1, pt e p.2) := by
  show ((gq e).bind fun d => match d with
    | .list ds => (ds[ds.length - 1]?).map fun x => (x, pt e (.list ds.dropLast))
    | _ => none : Option (PyData × En)) = _
  congr 1; funext d
  unfold gPop
  cases d with
  | list ds => show (ds[ds.length - 1]?).map _ = ((ds[ds.length - 1]?).bind _).bind _; cases ds[ds.length - 1]? <;> rfl
  | _ => rfl
@[simp] theorem rPopAt : ePopAt gq pt gi e = (gq e).bind fun d => (gi e).bind fun i => (gPopAt d i).bind fun p => some (p.1, pt e p.2) := by
  show ((gq e).bind fun d => (gi e).bind fun i => match d, i with
    | .list ds, .int k => if -(2 ^ 63) ≤ k ∧ k < 2 ^ 63 then (ixN ds.length k).bind fun j => (ds[j]?).map fun x => (x, pt e (.list (ds.eraseIdx j))) else none
    | _, _ => none : Option (PyData × En)) = _
  congr 1; funext d; congr 1; funext i
  unfold gPopAt
  cases d <;> cases i <;> first | rfl | skip
  rename_i ds k
  show (if _ then _ else _) = (if _ then _ else _ : Option (PyData × PyData)).bind _
  split
  · cases ixN ds.length k with
    | none => rfl
    | some j => show (ds[j]?).map _ = ((ds[j]?).bind _).bind _; cases ds[j]? <;> rfl
  · rfl
@[simp] theorem reNotT : eNotT fb e = (fb e).bind fun p => some (.bool (!p.1), p.2) := rfl
@[simp] theorem rPopG : ePopG j f e = (f e).bind fun p => (gPopAt (p.2.getD j .none) p.1).bind fun q => some (q.1, p.2.set j q.2) := rfl
@[simp] theorem rExt : eExt j f e = (f e).bind fun p => (gExt (p.2.getD j .none) p.1).bind fun l => some (.none, p.2.set j l) := rfl
@[simp] theorem rsSet : sSet gq pt gi f e = (f e).bind fun p => (gq p.2).bind fun d => (gi p.2).bind fun i => (gSet d i p.1).bind fun l => some (.nx, pt p.2 l) := by
  show ((f e).bind fun p => (gq p.2).bind fun d => (gi p.2).bind fun i => match d, i with
    | .list ds, .int k => (ixN ds.length k).map fun j => (.nx, pt p.2 (.list (ds.set j p.1)))
    | _, _ => none : Option (Out × En)) = _
  congr 1; funext p; congr 1; funext d; congr 1; funext i
  unfold gSet
  cases d <;> cases i <;> first | rfl | skip
  rename_i ds k
  show (ixN ds.length k).map _ = ((ixN ds.length k).bind _).bind _
  cases ixN ds.length k <;> rfl
@[simp] theorem reSl {gg : PyData → Option Int → Option Int → Option PyData} {l u : Of} : eSl gg a l u e = (a e).bind fun p => (l p.2).bind fun q => (u q.2).bind fun r => (gg p.1 q.1 r.1).bind fun d => some (d, r.2) := rfl
@[simp] theorem roNone : oNone e = some (none, e) := rfl
@[simp] theorem roSome : oSome f e = (f e).bind fun p => (prt p.1).bind fun i => some (i, p.2) := rfl
@[simp] theorem reLenQ : eLenQ j e = (gLenL (e.getD j .none)).bind fun d => some (d, e) := by
  show (match e.getD j .none with | .list xs => some (.int xs.length, e) | _ => none : Option (PyData × En)) = _
  cases e.getD j .none <;> rfl
@[simp] theorem reSlQ {lo hi : Option Int} : eSlQ j lo hi e = (gSlL (e.getD j .none) lo hi).bind fun d => some (d, e) := by
  show (gSlL (e.getD j .none) lo hi).map (fun d => (d, e)) = _
  cases gSlL (e.getD j .none) lo hi <;> rfl
@[simp] theorem rsNil : sNil e = some (.nx, e) := rfl
@[simp] theorem rsSeq : sSeq sf sg e = (sf e).bind fun p => seqR p sg := by
  show ((sf e).bind fun p => match p.1 with
    | .nx => sg p.2
    | o => some (o, p.2) : Option (Out × En)) = _
  congr 1
@[simp] theorem rsIf : sIf fb sf sg e = (fb e).bind fun p => if p.1 = true then sf p.2 else sg p.2 := rfl
@[simp] theorem rsRet : sRet f e = (f e).bind fun p => some (.rt p.1, p.2) := by
  show (f e).map _ = _
  cases f e <;> rfl
@[simp] theorem rsRetN : sRetN e = some (.rt .none, e) := rfl
@[simp] theorem rsBrk : sBrk e = some (.bk, e) := rfl
@[simp] theorem rsCnt : sCnt e = some (.ct, e) := rfl
@[simp] theorem rsNever : sNever e = none := rfl
@[simp] theorem rsDrop : sDrop f e = (f e).bind fun p => some (.nx, p.2) := by
  show (f e).map _ = _
  cases f e <;> rfl
@[simp] theorem rsAsg : sAsg j f e = (f e).bind fun p => some (.nx, p.2.set j p.1) := by
  show (f e).map _ = _
  cases f e <;> rfl
@[simp] theorem rsAug {gg : PyData → PyData → Option PyData} : sAug j gg f e = (f e).bind fun p => (gg (p.2.getD j .none) p.1).bind fun d => some (.nx, p.2.set j d) := by
  show ((f e).bind fun p => (gg (p.2.getD j .none) p.1).map fun d => (.nx, p.2.set j d) : Option (Out × En)) = _
  congr 1; funext p; cases gg (p.2.getD j .none) p.1 <;> rfl
@[simp] theorem rsTg : sTg f gf e = (f e).bind fun p => (gf p.1 p.2).bind fun e' => some (.nx, e') := by
  show ((f e).bind fun p => (gf p.1 p.2).map fun e' => (.nx, e') : Option (Out × En)) = _
  congr 1; funext p; cases gf p.1 p.2 <;> rfl
@[simp] theorem rsPar {i : Nat} : sPar i j fr e = (fr e).bind fun p => two p.1 fun x y => some (.nx, (p.2.set i x).set j y) := rfl
@[simp] theorem rsPar3 {i l : Nat} : sPar3 i j l fr e = (fr e).bind fun p => three p.1 fun x y z => some (.nx, ((p.2.set i x).set j y).set l z) := rfl
@[simp] theorem rsFor {it : Lf} : sFor it gf sf e = (it e).bind fun p => forL gf sf p.1 p.2 := rfl
@[simp] theorem rsWh {n : Nat} : sWh n fb sf e = whL fb sf n e := rfl
@[simp] theorem riFg {js : List Nat} {lf : Lf} : iFg js lf e = (lf e).bind fun p => some (p.1, fgE js p.2) := rfl
@[simp] theorem rsPre {js : List Nat} : sPre js sf e = sf (fgE js e) := rfl
@[simp] theorem rsPost {js jr : List Nat} : sPost js jr sf e = (sf e).bind fun p => some (p.1, outE js jr p.1 p.2) := rfl
@[simp] theorem reLc {it : Lf} {vs : List Nat} : eLc it vs gf fb f e = (it e).bind fun p => (lcL vs gf fb f p.1 p.2).bind fun q => some (.list q.1, restE p.2 q.2 vs) := rfl
@[simp] theorem rbYes : bYes e = some (true, e) := rfl
@[simp] theorem rlcB {vs : List Nat} : lcB vs gf fb f d e = (gf d e).bind fun e1 => (fb e1).bind fun p => if p.1 = true then (f p.2).bind fun q => some (some q.1, restE e q.2 vs) else some (none, restE e p.2 vs) := rfl
@[simp] theorem riSeq : iSeq f e = (f e).bind fun p => (seqD p.1).bind fun ds => some (ds, p.2) := rfl
@[simp] theorem riEn : iEn f e = (f e).bind fun p => (gEn p.1).bind fun ds => some (ds, p.2) := by
  show ((f e).bind fun p => (seqD p.1).bind fun ds => some (enumD 0 ds, p.2)) = _
  congr 1; funext p; unfold gEn; cases seqD p.1 <;> rfl
@[simp] theorem riZp : iZp f g e = (f e).bind fun p => (g p.2).bind fun q => (zipS p.1 q.1).bind fun ds => some (ds, q.2) := rfl
@[simp] theorem riR1 : iR1 f e = (f e).bind fun p => (rng1 p.1).bind fun ds => some (ds, p.2) := rfl
@[simp] theorem riR2 : iR2 f g e = (f e).bind fun p => (g p.2).bind fun q => (rng2 p.1 q.1).bind fun ds => some (ds, q.2) := rfl
@[simp] theorem rLsR {lf : Lf} : eLsR lf e = (lf e).bind fun p => some (.list p.1, p.2) := by
  show (lf e).map _ = _
  cases lf e <;> rfl
@[simp] theorem rTpR {lf : Lf} : eTpR lf e = (lf e).bind fun p => some (.tuple p.1, p.2) := by
  show (lf e).map _ = _
  cases lf e <;> rfl
@[simp] theorem rgNm : gNm j d e = some (e.set j d) := rfl
@[simp] theorem rgTp2 : gTp 2 (gsCons gf (gsCons gf2 gsNil)) d e = (un2 d).bind fun p => (gf p.1 e).bind fun e => gf2 p.2 e := by
  unfold gTp un2
  cases d with
  | tuple ds =>
    match ds with
    | [] => rfl
    | [a] => rfl
    | [a, b] =>
      show ((gf a e).bind fun e' => (gf2 b e').bind fun e'' => some e'') = _
      simp only [Option.bind_some]
      congr 1; funext e'; cases gf2 b e' <;> rfl
    | a :: b :: c :: r => show (if (a :: b :: c :: r).length = 2 then _ else _) = _; rw [if_neg (by simp)]; rfl
  | _ => rfl
@[simp] theorem rgTp3 : gTp 3 (gsCons gf (gsCons gf2 (gsCons gf3 gsNil))) d e = (un3 d).bind fun p => (gf p.1 e).bind fun e => (gf2 p.2.1 e).bind fun e => gf3 p.2.2 e := by
  unfold gTp un3
  cases d with
  | tuple ds =>
    match ds with
    | [] => rfl
    | [a] => rfl
    | [a, b] => rfl
    | [a, b, c] =>
      show ((gf a e).bind fun e' => (gf2 b e').bind fun e'' => (gf3 c e'').bind fun e''' => some e''') = _
      simp only [Option.bind_some]
      congr 1; funext e'; congr 1; funext e''; cases gf3 c e'' <;> rfl
    | a :: b :: c :: x :: r => show (if (a :: b :: c :: x :: r).length = 3 then _ else _) = _; rw [if_neg (by simp)]; rfl
  | _ => rfl
@[simp] theorem rgTp4 : gTp 4 (gsCons gf (gsCons gf2 (gsCons gf3 (gsCons gf4 gsNil)))) d e = (un4 d).bind fun p => (gf p.1 e).bind fun e => (gf2 p.2.1 e).bind fun e => (gf3 p.2.2.1 e).bind fun e => gf4 p.2.2.2 e := by
  unfold gTp un4
  cases d with
  | tuple ds =>
    match ds with
    | [] => rfl
    | [a] => rfl
    | [a, b] => rfl
    | [a, b, c] => rfl
    | [a, b, c, z] =>
      show ((gf a e).bind fun e' => (gf2 b e').bind fun e'' => (gf3 c e'').bind fun e''' => (gf4 z e''').bind fun e4 => some e4) = _
      simp only [Option.bind_some]
      congr 1; funext e'; congr 1; funext e''; congr 1; funext e3; cases gf4 z e3 <;> rfl
    | a :: b :: c :: x :: y :: r => show (if (a :: b :: c :: x :: y :: r).length = 4 then _ else _) = _; rw [if_neg (by simp)]; rfl
  | _ => rfl
@[simp] theorem rrest0 : restE e e' [] = e' := rfl
@[simp] theorem rrest1 {v : Nat} {vs : List Nat} : restE e e' (v :: vs) = restE e (e'.set v (e.getD v .none)) vs := rfl
@[simp] theorem rgd0 {x : PyData} : List.getD (x :: e) 0 d = x := rfl
@[simp] theorem rgdS {x : PyData} : List.getD (x :: e) (j + 1) d = List.getD e j d := rfl
@[simp] theorem rRun {f : Sf} {ptys : List Ty} {r : Nat} {ds : List PyData} : runF f ptys r ds = (f (ds ++ List.replicate r .none)).bind fun p => retR ptys ds p := by
  show ((f (ds ++ List.replicate r .none)).bind fun p => match p.1 with
    | .rt d => some (d, fins ptys ds p.2)
    | .nx => some (.none, fins ptys ds p.2)
    | _ => none : Option (PyData × List PyData)) = _
  congr 1
@[simp] theorem rep0 {x : PyData} : List.replicate 0 x = [] := rfl
@[simp] theorem repS {x : PyData} {n : Nat} : List.replicate (n + 1) x = x :: List.replicate n x := rfl
@[simp] theorem finS {t : Ty} {ts : List Ty} {d e : PyData} {ds es : List PyData} : fins (t :: ts) (d :: ds) (e :: es) = (if stb t = true then d else e) :: fins ts ds es := rfl
@[simp] theorem finN {ds es : List PyData} : fins [] ds es = [] := rfl
@[simp] theorem stbs : stb .s = true := rfl
@[simp] theorem stbq : stb .q = true := rfl
@[simp] theorem stbl {t : Ty} : stb (.l t) = false := rfl
@[simp] theorem stbr {t : List Ty} : stb (.r t) = false := rfl
end
end DL

namespace DL
open PySem L2 PySem.Spec

/-! ### run lemmas, second part -/
section
variable {e : En} {f g h : Ef} {j : Nat}
@[simp] theorem reDGet : eDGet j f e = (f e).bind fun p => (gDGet (p.2.getD j .none) p.1).bind fun d => some (d, p.2) := rfl
@[simp] theorem reDOp {gg : PyData → PyData → Option PyData} : eDOp gg j f e = (f e).bind fun p => (gg (p.2.getD j .none) p.1).bind fun d => some (d, p.2) := rfl
@[simp] theorem reDGet2 : eDGet2 j f h e = (f e).bind fun p => (h p.2).bind fun q => (gDGet2 (q.2.getD j .none) p.1 q.1).bind fun d => some (d, q.2) := rfl
@[simp] theorem rsDPutD : sDPutD j g f e = (f e).bind fun p => (g p.2).bind fun q => (gDPut (q.2.getD j .none) q.1 p.1).bind fun d => some (.nx, q.2.set j d) := rfl
@[simp] theorem rgItm {gi : Gq} {d : PyData} : gItm j gi d e = (gi e).bind fun i => (gSet (e.getD j .none) i d).bind fun l => some (e.set j l) := by
  show ((gi e).bind fun i => match e.getD j .none, i with
    | .list ds, .int k => (ixN ds.length k).map fun z => e.set j (.list (ds.set z d))
    | _, _ => none) = _
  congr 1; funext i
  unfold gSet
  cases e.getD j .none <;> cases i <;> first | rfl | skip
  rename_i ds k
  show (ixN ds.length k).map _ = ((ixN ds.length k).bind _).bind _
  cases ixN ds.length k <;> rfl
end
end DL

namespace DL
open PySem L2 PySem.Spec

/-! ### what a def that may raise gives -/
inductive Res where
  | ok (d : PyData)
  | ex (c : Str) (fs : List (Str × PyData))
abbrev DFnX := List PyData → Option Res
/-- an exception of the class named c, its fields stable -/
def ExAt (K : PySem.W.Frag) (mg : Str → Option Value) (G : Hp) (c : Str) (fs : List (Str × PyData)) (cls : Value) (dx : Option Addr) : Prop :=
  ∃ C fv, mg c = some (.ref C) ∧ cls = .ref C ∧ (∀ x, dx = some x → G x = some (.xd fv)) ∧ (dx = none → fs = []) ∧ fv.map (·.1) = fs.map (·.1) ∧ DqA K G (fv.map (·.2)) (fs.map (·.2))
theorem ExAt.mono {K : PySem.W.Frag} {mg : Str → Option Value} {G G' : Hp} {c : Str} {fs : List (Str × PyData)} {cls : Value} {dx : Option Addr} (e : Same G G') (h : ExAt K mg G c fs cls dx) : ExAt K mg G' c fs cls dx := by
  obtain ⟨C, fv, h1, h2, h3, h4, h5, h6⟩ := h
  exact ⟨C, fv, h1, h2, fun x hx => e _ _ (h3 x hx), h4, h5, h6.mono e⟩
def spX (K : PySem.W.Frag) (mg : Str → Option Value) (ptys : List Ty) (rty : Ty) (Fn : DFnX) : Sp := fun vs H Q E =>
  ∃ (ds : List PyData) (r : Res) (G : Hp), Fn ds = some r ∧ OwnA K G H ptys ds (vs.map some) [] ∧ Same G H ∧ match r with
    | .ok d => ∀ (G' H' : Hp) (v : V) (Av : List Addr), Step [] G H Av G' H' → Own K G' H' rty d (some v) Av → Av.Nodup → Same G' H' → Q v H'
    | .ex c fs => ∀ (G' H' : Hp) (cls : Value) (dx : Option Addr), Step [] G H [] G' H' → ExAt K mg G' c fs cls dx → Same G' H' → E cls dx H'
/-- the promise of a def that may raise, kept wherever no text of an object is under way -/
structure FnX (P : Program) (w : World) (K : PySem.W.Frag) (mg : Str → Option Value) (base : Heap) (k : Nat) (f : Addr) (fd : FuncData) (ps : List Str) (sp : Sp) : Prop where
  len : ∀ vs H Q E, sp vs H Q E → vs.length = ps.length
  run : ∀ (A : Around) (outer : List Env) (s : Shared) (H : Hp) (args : Args) (us : List Value) (vs : List V) (Q : VK) (E : XK), Room k A → A.guards = some [] → Env0 P w K mg base A outer s H → BindsTo s fd args (ps.zip us) → Vals vs us → sp vs H Q E →
    codeAny (model P w) A (.call (.ref f) args) (CR (L2.CX P w) outer P w H s Q E) s
structure CalX (P : Program) (w : World) (K : PySem.W.Frag) (mg : Str → Option Value) (base : Heap) (k : Nat) (x : Str) (ptys : List Ty) (rty : Ty) (Fn : DFnX) : Prop where
  ex : ∃ (f : Addr) (fd : FuncData) (ps : List Str), FnX P w K mg base k f fd ps (spX K mg ptys rty Fn) ∧ mg x = some (.ref f) ∧ PySem.W.keepIn K (.ref f) = true ∧ Binds K fd ps []
/-! ### expressions that may raise -/
abbrev EfX := En → Option (Res × En)
def DEX (K : PySem.W.Frag) (mg : Str → Option Value) (m : List Ty) (te : TE) (ty : Ty) (f : EfX) (m' : List Ty) (W : WX) : Prop :=
  ∀ {G H : Hp} {σ : St} {e : En} {A : List Addr} {r : Res} {e' : En} {Q : VK}, Stt K m G H σ e A → f e = some (r, e') →
    (match r with
    | .ok d => ∀ (G' H' : Hp) (v : V) (Av A' : List Addr), Step A G H (Av ++ A') G' H' → Stt K m' G' H' σ e' A' → Own K G' H' ty d (some v) Av → (Av ++ A').Nodup → Q v H'
    | .ex c fs => ∀ (G' H' : Hp) (A' : List Addr) (cls : Value) (dx : Option Addr), Step A G H A' G' H' → Stt K m' G' H' σ e' A' → ExAt K mg G' c fs cls dx → W cls dx σ H') → te σ H Q
structure PDX {ι : Type} (Xf : ι → Cx) (W : WX) (K : PySem.W.Frag) (mg : Str → Option Value) (m : List Ty) (e : Expr) (ty : Ty) (f : EfX) (m' : List Ty) : Prop where
  ex : ∃ te : TE, (∀ i, PE (Xf i) e te) ∧ DEX K mg m te ty f m' W
/-- what is raised in such a context is taken -/
class FamT {ι : Type} (Xf : ι → Cx) (W : outParam WX) : Prop where
  tk : ∀ i, Takes (Xf i) W
def xCall (Fn : DFnX) (r : Lf) : EfX := fun e => (r e).bind fun p => (Fn p.1).bind fun q => some (q, p.2)
section
variable {ι : Type} {Xf : ι → Cx} {W : WX} {P : Program} {w : World} {K : PySem.W.Frag} {mg : Str → Option Value} {base : Heap} {n : Nat} [F : Fam Xf P w K mg base n] [FG : FamG Xf]
variable {m m1 m2 m3 : List Ty} {pos p p2 : Pos} {a b c : Expr} {es : List Expr} {f g h : Ef} {gx : EfX} {fr : Lf} {ty : Ty} {tys : List Ty} {L : List (Option Nat)}
theorem stab_nil {K : PySem.W.Frag} {G H : Hp} : ∀ {ts : List Ty} {ds : List PyData} {vs : List (Option V)} {A : List Addr}, OwnA K G H ts ds vs A → (∀ t ∈ ts, stb t = true) → A = []
  | [], _, _, _, o, _ => by cases o; rfl
  | t :: ts, _, _, _, o, h => by
    cases o with
    | cons h1 h2 => rw [own_stb h1 (h t (List.mem_cons_self ..)), stab_nil h2 fun x hx => h x (List.mem_cons_of_mem _ hx)]; rfl
end

/-! ### statements that may raise -/
inductive OutX where
  | o (x : Out)
  | ex (c : Str) (fs : List (Str × PyData))
abbrev SfX := En → Option (OutX × En)
def FinX (K : PySem.W.Frag) (mg : Str → Option Value) (M : Mk) (mx : List Ty) (W : WX) (mn : List Ty) (A : List Addr) (G H : Hp) (σ : St) (D : Ends) (e' : En) : OutX → Prop
  | .o x => Fin K M mn A G H σ D e' x
  | .ex c fs => ∀ (G' H' : Hp) (σ' : St) (A' : List Addr) (cls : Value) (dx : Option Addr), Step A G H A' G' H' → Stt K mx G' H' σ' e' A' → Pin M.po σ σ' → ExAt K mg G' c fs cls dx → W cls dx σ' H'
def DSX (K : PySem.W.Frag) (mg : Str → Option Value) (M : Mk) (mx : List Ty) (W : WX) (m : List Ty) (t : TS) (f : SfX) (mn : List Ty) : Prop :=
  ∀ {G H : Hp} {σ : St} {e : En} {A : List Addr} {o : OutX} {e' : En} {D : Ends}, Stt K m G H σ e A → f e = some (o, e') → FinX K mg M mx W mn A G H σ D e' o → t D σ H
structure PSX {ι : Type} (Xf : ι → Cx) (W : WX) (K : PySem.W.Frag) (mg : Str → Option Value) (M : Mk) (mx : List Ty) (m : List Ty) (st : Stmt) (f : SfX) (mn : List Ty) : Prop where
  ex : ∃ t : TS, (∀ i, PS (Xf i) st t) ∧ DSX K mg M mx W m t f mn
structure PSXs {ι : Type} (Xf : ι → Cx) (W : WX) (K : PySem.W.Frag) (mg : Str → Option Value) (M : Mk) (mx : List Ty) (m : List Ty) (st : List Stmt) (f : SfX) (mn : List Ty) : Prop where
  ex : ∃ t : TS, (∀ i, PSs (Xf i) st t) ∧ DSX K mg M mx W m t f mn
def xO (f : Sf) : SfX := fun e => (f e).map fun p => (.o p.1, p.2)
def xSeqX (f g : SfX) : SfX := fun e => (f e).bind fun p => match p.1 with
  | .o .nx => g p.2
  | o => some (o, p.2)
def xIfX (c : Bf) (f g : SfX) : SfX := fun e => (c e).bind fun p => if p.1 = true then f p.2 else g p.2
def xAsgX (j : Nat) (f : EfX) : SfX := fun e => (f e).map fun p => match p.1 with
  | .ok d => (.o .nx, p.2.set j d)
  | .ex c fs => (.ex c fs, p.2)
def xDropX (f : EfX) : SfX := fun e => (f e).map fun p => match p.1 with
  | .ok _ => (.o .nx, p.2)
  | .ex c fs => (.ex c fs, p.2)
def xRetX (f : EfX) : SfX := fun e => (f e).map fun p => match p.1 with
  | .ok d => (.o (.rt d), p.2)
  | .ex c fs => (.ex c fs, p.2)
section
variable {K : PySem.W.Frag} {mg : Str → Option Value} {M : Mk} {G H G1 H1 : Hp} {m m1 m2 mn mx : List Ty} {W : WX} {σ σ1 : St} {e : En} {A A1 : List Addr} {D : Ends} {e' : En} {t u : TS} {ef : Ef} {bf : Bf} {lf : Lf}
theorem FinX.back {o : OutX} (s : Step A G H A1 G1 H1) (p : Pin M.po σ σ1) (h : FinX K mg M mx W mn A G H σ D e' o) : FinX K mg M mx W mn A1 G1 H1 σ1 D e' o := by
  cases o with
  | o x => exact Fin.back s p h
  | ex c fs => exact fun G' H' σ' A' cls dx s' st' p' ex => h G' H' σ' A' cls dx (s.seq0 s') st' (p.trans p') ex
theorem DSX.of {f : Sf} (h : DS K M m t f mn) : DSX K mg M mx W m t (xO f) mn := by
  intro G H σ e A o e' D st hf k
  obtain ⟨⟨x, e1⟩, hf1, hf⟩ := Option.map_eq_some_iff.mp hf
  cases hf
  exact h st hf1 k
theorem DSX.seq {f g : SfX} (h1 : DSX K mg M mx W m t f m1) (h2 : DSX K mg M mx W m1 u g mn) : DSX K mg M mx W m (tSeq t u) (xSeqX f g) mn := by
  intro G H σ e A o e' D st hf k
  obtain ⟨⟨o1, e1⟩, hf1, hf⟩ := Option.bind_eq_some_iff.mp hf
  refine h1 st hf1 ?_
  match o1, hf with
  | .o .nx, hf => exact fun G' H' σ' A' s' st' p' => h2 st' hf (k.back s' p')
  | .o .bk, hf => cases hf; exact k
  | .o .ct, hf => cases hf; exact k
  | .o (.rt d), hf => cases hf; exact k
  | .ex c fs, hf => cases hf; exact k
theorem DSX.ite {f g : SfX} {tc : TT} (hc : DT K m tc bf m1) (h1 : DSX K mg M mx W m1 t f mn) (h2 : DSX K mg M mx W m1 u g mn) : DSX K mg M mx W m (tIfS tc t u) (xIfX bf f g) mn := by
  intro G H σ e A o e' D st hf k
  obtain ⟨⟨b, e1⟩, hf1, hf⟩ := Option.bind_eq_some_iff.mp hf
  refine hc st hf1 fun G1 H1 A1 s1 st1 => ?_
  cases b with
  | true => exact h1 st1 hf (k.back s1 Pin.refl)
  | false => exact h2 st1 hf (k.back s1 Pin.refl)
theorem DSX.le {f : SfX} (h : DSX K mg M mx W m t f m1) (l : LeM m1 mn) : DSX K mg M mx W m t f mn := by
  intro G H σ e A o e' D st hf k
  refine h st hf ?_
  match o, k with
  | .o .nx, k =>
    intro G' H' σ' A' s' st' p'
    obtain ⟨G2, A2, s2, st2⟩ := stt_le l st'
    exact k G2 H' σ' A2 (s'.seq0 s2) st2 p'
  | .o .bk, k => exact k
  | .o .ct, k => exact k
  | .o (.rt d), k => exact k
  | .ex c fs, k => exact k
theorem DSX.asg {te : TE} {ty : Ty} {j : Nat} {fx : EfX} (he : DEX K mg m te ty fx m1 W) (hj : j < m1.length) (hp : j ∉ M.po) : DSX K mg M m1 W m (tAsg te (gName j)) (xAsgX j fx) (m1.set j ty) := by
  intro G H σ e A o e' D st hf k
  obtain ⟨⟨r, e1⟩, hf1, hf⟩ := Option.map_eq_some_iff.mp hf
  refine he st hf1 ?_
  match r, hf with
  | .ok d, hf =>
    cases hf
    exact fun G1 H1 v Av A1 s1 st1 o1 nd1 => by
      obtain ⟨A2, st2, hA⟩ := stt_set st1 hj o1 nd1
      exact k G1 H1 _ A2 (s1.less hA) st2 (Pin.set hp)
  | .ex c fs, hf =>
    cases hf
    exact fun G1 H1 A1 cls dx s1 st1 ex => k G1 H1 σ A1 cls dx s1 st1 Pin.refl ex
theorem DSX.drop {te : TE} {ty : Ty} {fx : EfX} (he : DEX K mg m te ty fx m1 W) : DSX K mg M m1 W m (tDrop te) (xDropX fx) m1 := by
  intro G H σ e A o e' D st hf k
  obtain ⟨⟨r, e1⟩, hf1, hf⟩ := Option.map_eq_some_iff.mp hf
  refine he st hf1 ?_
  match r, hf with
  | .ok d, hf =>
    cases hf
    exact fun G1 H1 v Av A1 s1 st1 o1 nd1 => k G1 H1 σ A1 (s1.less fun a h => List.mem_append_right _ h) st1 Pin.refl
  | .ex c fs, hf =>
    cases hf
    exact fun G1 H1 A1 cls dx s1 st1 ex => k G1 H1 σ A1 cls dx s1 st1 Pin.refl ex
theorem DSX.ret {te : TE} {fx : EfX} (he : DEX K mg m te M.ty fx m1 W) (l : LeM m1 M.r) (lx : LeM m1 mx) : DSX K mg M mx W m (tRet te) (xRetX fx) mn := by
  intro G H σ e A o e' D st hf k
  obtain ⟨⟨r, e1⟩, hf1, hf⟩ := Option.map_eq_some_iff.mp hf
  refine he st hf1 ?_
  match r, hf with
  | .ok d, hf =>
    cases hf
    exact fun G1 H1 v Av A1 s1 st1 o1 nd1 => by
      obtain ⟨G2, A2, s2, st2, o2, nd2⟩ := le_aside l s1 st1 o1 nd1
      exact k G2 H1 σ v Av A2 s2 st2 o2 nd2 Pin.refl
  | .ex c fs, hf =>
    cases hf
    exact fun G1 H1 A1 cls dx s1 st1 ex => by
      obtain ⟨G2, A2, s2, st2⟩ := stt_le lx st1
      exact k G2 H1 σ A2 cls dx (s1.seq0 s2) st2 Pin.refl (ex.mono s2.sg)
end
section
variable {ι : Type} {Xf : ι → Cx} {W : WX} {P : Program} {w : World} {K : PySem.W.Frag} {mg : Str → Option Value} {base : Heap} {n : Nat} [F : Fam Xf P w K mg base n]
variable {M : Mk} {m m1 m2 mn mx : List Ty} {pos p p2 spos : Pos} {c v : Expr} {st : Stmt} {rest body orelse : List Stmt} {f g : SfX} {sf : Sf} {bf : Bf} {ef : Ef} {fx : EfX} {ty : Ty}
end

/-! ### raise -/
/-- __init__ of an own exception: the fields told -/
def spIn (C : Addr) (flds : List Str) : Sp := fun vs H Q _ => ∃ (a : Addr) (ys : List V), vs = .ref a :: ys ∧ ys.length = flds.length ∧ H a = some (exo a C none) ∧
  ∀ (dx : Addr) (H' : Hp), H dx = none → dx ≠ a → H' a = some (exo a C (some dx)) → H' dx = some (exd dx (flds.zip ys).reverse) → (∀ b, b ≠ a → b ≠ dx → H' b = H b) → Q .non H'
structure ExcT (P : Program) (w : World) (K : PySem.W.Frag) (mg : Str → Option Value) (base : Heap) (k : Nat) (x : Str) (flds : List Str) : Prop where
  ex : ∃ (C fI : Addr) (fd : FuncData) (ps : List Str), OexC K C ∧ mg x = some (.ref C) ∧ PySem.W.findIn K (.ref C) "__init__" = some (some (.ref fI)) ∧ PySem.W.typeIn K (.ref fI) = some (.type "function") ∧ FnOk P w K mg base CX0 k fI fd ps (spIn C flds) ∧ Binds K fd ps []
section
variable {ι : Type} {Xf : ι → Cx} {W : WX} {P : Program} {w : World} {K : PySem.W.Frag} {mg : Str → Option Value} {base : Heap} {n : Nat} [F : Fam Xf P w K mg base n]
variable {M : Mk} {m m1 m2 mn mx : List Ty} {pos p p2 spos : Pos} {a : Expr} {es : List Expr} {fr : Lf} {tys : List Ty} {L : List (Option Nat)}
end

/-! ### THE RULE for a def that may raise -/
end DL

namespace DL
open PySem L2 PySem.Spec

/-! ### the contexts of a try's body and of its suite -/
structure TI {ι : Type} (Xf : ι → Cx) (W : WX) where
  i : ι
  pn : List (Addr × Obj)
  xe : Value → Shared → Prop
  tk : Takes ((Xf i).tr pn xe) W
  ps : PassesOwn (model (Xf i).prog (Xf i).w) (Xf i).A (Xf i).env xe
def tryF {ι : Type} (Xf : ι → Cx) (W : WX) : TI Xf W → Cx := fun b => (Xf b.i).tr b.pn b.xe
section
variable {ι : Type} {Xf : ι → Cx} {P : Program} {w : World} {K : PySem.W.Frag} {mg : Str → Option Value} {base : Heap} {n : Nat} {W : WX}
instance [F : Fam Xf P w K mg base n] : Fam (tryF Xf W) P w K mg base n :=
  ⟨fun b => F.prog b.i, fun b => F.w_ b.i, fun b => F.kk b.i, fun b => F.mg_ b.i, fun b => F.base_ b.i, fun b => F.room b.i, fun b => F.nd b.i⟩
instance [F : FamG Xf] : FamG (tryF Xf W) := ⟨fun b => F.gd b.i, fun b => F.calm b.i, fun b => F.hd b.i⟩
instance : FamN (tryF Xf W) := ⟨fun b => b.ps⟩
instance : FamT (tryF Xf W) W := ⟨fun b => b.tk⟩
end
structure SI {ι : Type} (Xf : ι → Cx) (cls : Value) (d : Option Addr) where
  i : ι
  oe : Obj
  pn : List (Addr × Obj)
  hz : Zc cls d oe
  hf : ∃ vs, oe.data = .fields vs
def suF {ι : Type} (Xf : ι → Cx) (a : Addr) (cls : Value) (d : Option Addr) : SI Xf cls d → Cx := fun b => (Xf b.i).suite a ((a, b.oe) :: b.pn)
section
variable {ι : Type} {Xf : ι → Cx} {P : Program} {w : World} {K : PySem.W.Frag} {mg : Str → Option Value} {base : Heap} {n : Nat} {a : Addr} {cls : Value} {d : Option Addr}
instance [F : Fam Xf P w K mg base n] : Fam (suF Xf a cls d) P w K mg base n :=
  ⟨fun b => F.prog b.i, fun b => F.w_ b.i, fun b => F.kk b.i, fun b => F.mg_ b.i, fun b => F.base_ b.i, fun b => ⟨(F.room b.i).dp, (F.room b.i).un⟩, fun b => F.nd b.i⟩
instance [F : FamG Xf] : FamD (suF Xf a cls d) := ⟨fun b => F.gd b.i⟩
end
/-- what is caught: classes with the names of their fields, the last one first -/
abbrev CT := List (Str × List Str)
section
variable {K : PySem.W.Frag} {G H : Hp}
end
section
variable {ι : Type} {Xf : ι → Cx} {P : Program} {w : World} {K : PySem.W.Frag} {mg : Str → Option Value} {base : Heap} {n : Nat} [F : Fam Xf P w K mg base n]
variable {M : Mk} {m mn mx : List Ty} {pos pos' np : Pos} {x nm : Str} {cx : Value} {body suite : List Stmt} {b₀ : Stmt} {fb : SfX} {fs : Sf}
end
end DL

namespace DL
open PySem L2 PySem.Spec

/-! ### results of a def that may raise, as plain data: [d], or (class, fields ..), the last field first -/
def gOk (d : PyData) : Option PyData := some (.list [d])
def gUn : PyData → Option PyData
  | .list [d] => some d
  | _ => none
def decR (tb : CT) : PyData → Option Res
  | .list [d] => some (.ok d)
  | .tuple (.str c :: vs) => (tb.lookup c).bind fun l => if l.length = vs.length then some (.ex c (l.zip vs)) else none
  | _ => none
def gIsOk (tb : CT) : PyData → Option PyData
  | .list [_] => some (.bool true)
  | .tuple (.str c :: vs) => (tb.lookup c).bind fun l => if l.length = vs.length then some (.bool false) else none
  | _ => none
def gIsE (rt : List (Str × Bool)) : PyData → Option PyData
  | .tuple (.str c :: _) => (rt.lookup c).bind fun b => some (.bool b)
  | _ => none
def decX (tb : CT) (f : Sf) : SfX := fun e => (f e).bind fun p => match p.1 with
  | .rt v => (decR tb v).bind fun r => match r with
    | .ok d => some (.o (.rt d), p.2)
    | .ex c fs => some (.ex c fs, p.2)
  | .nx => some (.o .nx, p.2)
  | .bk => some (.o .bk, p.2)
  | .ct => some (.o .ct, p.2)
section
variable {ι : Type} {Xf : ι → Cx} {W : WX} {P : Program} {w : World} {K : PySem.W.Frag} {mg : Str → Option Value} {base : Heap} {n : Nat} [F : Fam Xf P w K mg base n]
variable {M : Mk} {m m1 m2 mn mx : List Ty} {pos p p2 spos : Pos} {c v a : Expr} {es : List Expr} {st : Stmt} {rest body orelse : List Stmt} {f g : Sf} {fx gx : SfX} {bf : Bf} {ef : Ef} {fr : Lf} {tys : List Ty} {L : List (Option Nat)} {tb : CT} {rty ty : Ty}
end
theorem FnX.imp {P : Program} {w : World} {K : PySem.W.Frag} {mg : Str → Option Value} {base : Heap} {k : Nat} {f : Addr} {fd : FuncData} {ps : List Str} {sp sp' : Sp} (h : FnX P w K mg base k f fd ps sp') (i : ∀ vs H Q E, sp vs H Q E → sp' vs H Q E) : FnX P w K mg base k f fd ps sp :=
  ⟨fun vs H Q E z => h.len vs H Q E (i _ _ _ _ z), fun A outer s H args us vs Q E r g e0 b rel z => h.run A outer s H args us vs Q E r g e0 b rel (i _ _ _ _ z)⟩
section
variable {ι : Type} {Xf : ι → Cx} {W : WX} {P : Program} {w : World} {K : PySem.W.Frag} {mg : Str → Option Value} {base : Heap} {n : Nat} [F : Fam Xf P w K mg base n] [FG : FamG Xf]
variable {m m1 m2 m3 : List Ty} {pos p p2 : Pos} {a b c : Expr} {es : List Expr} {f g h : Ef} {fr : Lf} {ty : Ty} {tys : List Ty} {L : List (Option Nat)} {tb : CT}
end
end DL

namespace DL
open PySem L2 PySem.Spec

/-! ### try in plain words -/
section
variable {ι : Type} {Xf : ι → Cx} {K : PySem.W.Frag} {M : Mk} {m mn : List Ty} {st : Stmt} {f g : Sf}
end
section
variable {ι : Type} {Xf : ι → Cx} {P : Program} {w : World} {K : PySem.W.Frag} {mg : Str → Option Value} {base : Heap} {n : Nat} [F : Fam Xf P w K mg base n] [FG : FamG Xf]
variable {M : Mk} {m m1 mn mx : List Ty} {pos pos' np p2 p3 cp : Pos} {x nm g y : Str} {cx : Value} {suite : List Stmt} {b₀ : Stmt} {fs : Sf} {Fn : DFn} {fr : Lf} {tys : List Ty} {L : List (Option Nat)} {rty : Ty} {a : Expr} {es : List Expr} {k : Nat}
/-- what an except suite is told -/
def Suit {ι : Type} (Xf : ι → Cx) (K : PySem.W.Frag) (mg : Str → Option Value) (M : Mk) (tb : CT) (mx : List Ty) (j : Nat) (suite : List Stmt) (fs : Sf) (mn : List Ty) : Prop :=
  ∀ (a : Addr) (cls : Value) (d : Option Addr) (fl : List (Str × V)) (c : Str), tb.lookup c = some (fl.map (·.1)) → mg c = some cls → (d = none → fl = []) → PSsd (suF Xf a cls d) K M (mx.set j (.e a d fl c)) suite fs mn
end
end DL

namespace DL
open PySem L2 PySem.Spec

/-! ### what a suite asks of the error it holds -/
section
variable {ι : Type} {Xf : ι → Cx} {P : Program} {w : World} {K : PySem.W.Frag} {mg : Str → Option Value} {base : Heap} {n : Nat} [F : Fam Xf P w K mg base n]
variable {m : List Ty} {pos p p1 p2 p3 : Pos} {x nm c : Str} {a : Addr} {cls : Value} {d : Option Addr} {fl : List (Str × V)} {tb : CT} {rt : List (Str × Bool)} {cv : Value} {v : V} {l : List Str}
/-- the classes of a tuple display -/
inductive ClsE : (X : Cx) → List Expr → List V → Prop
  | nil (X : Cx) : ClsE X [] []
  | cons {X : Cx} {x : Str} {q : Pos} {es : List Expr} {v : V} {vs : List V} : PE X (.Name x q) (tC v) → (starEach (.Name x q :: es) X.env = (false, eval (.Name x q) X.env) :: starEach es X.env) → ClsE X es vs → ClsE X (.Name x q :: es) (v :: vs)
end

/-! ### the classes -/
end DL

namespace DL
open PySem L2 PySem.Spec

section
variable {K : PySem.W.Frag} {C CL N : Addr} {nm q : Str} {bs : List Value} {sn : List Str} {sub : List Value} {ab : Bool} {col : Option Bool} {dd : Option Addr} {m0 m1 m2 m3 m5 : Option Value}
end
end DL

namespace DL
open PySem L2 PySem.Spec

/-! ### a, b, c = a record: c is its own list, now known by two names -/
/-- the first two of three -/
def gHd2 : PyData → Option (PyData × PyData)
  | .list [d0, d1, _] => some (d0, d1)
  | _ => none
/-- the names' data: a and b are told; c is looked at through the record -/
def sUnal (i j0 j1 : Nat) : Sf := fun e => (gHd2 (e.getD i .none)).bind fun q => some (.nx, (e.set j0 q.1).set j1 q.2)
section
variable {ι : Type} {Xf : ι → Cx} {P : Program} {w : World} {K : PySem.W.Frag} {mg : Str → Option Value} {base : Heap} {n : Nat} [F : Fam Xf P w K mg base n]
variable {M : Mk} {m mn : List Ty} {pos pos' p tpos q0 q1 q2 : Pos} {x x0 x1 x2 : Str} {rest : List Stmt} {g : Sf} {t2 : Ty}
end
/-! ### a list looked at by its second name -/
section
variable {ι : Type} {Xf : ι → Cx} {P : Program} {w : World} {K : PySem.W.Frag} {mg : Str → Option Value} {base : Heap} {n : Nat} [F : Fam Xf P w K mg base n]
variable {m : List Ty} {pos : Pos} {x : Str} {ts : List Ty} {t : Ty} {v : V}
end
/-! ### a list handed in first, read by what follows, moved at the end -/
def lAl (j : Nat) (r : Lf) : Lf := fun e => (r e).bind fun p => some (p.2.getD j .none :: p.1, p.2)
section
variable {ι : Type} {Xf : ι → Cx} {P : Program} {w : World} {K : PySem.W.Frag} {mg : Str → Option Value} {base : Heap} {n : Nat} [F : Fam Xf P w K mg base n]
variable {m m2 : List Ty} {p : Pos} {es : List Expr} {fr : Lf} {t : Ty} {tys : List Ty} {L : List (Option Nat)}
end
end DL

/-! sorted of a list of one -/
namespace DL
open PySem PySem.W PySem.Calls PyProof.Rows
section
variable {prog : Program} {w : World} {A : Around} {E : Value → Shared → Prop} {s : Shared}
end
end DL
namespace DL
open PySem L2 PySem.Spec
section
variable {ι : Type} {Xf : ι → Cx} {P : Program} {w : World} {K : PySem.W.Frag} {mg : Str → Option Value} {base : Heap} {n : Nat} [F : Fam Xf P w K mg base n]
end
end DL

/-! list(d.values()) -/
namespace DL
open PySem L2 PySem.Spec PyProof.Rows
section
variable {X : Cx} {e : Expr} {te : TE} {p apos cpos pos : Pos}
end
def gDVals (d : PyData) : Option PyData := match d with
  | .dict kvs => some (.list (kvs.map (·.2)))
  | _ => none
def eDVals (j : Nat) : Ef := fun e => (gDVals (e.getD j .none)).bind fun d => some (d, e)
section
variable {ι : Type} {Xf : ι → Cx} {P : Program} {w : World} {K : PySem.W.Frag} {mg : Str → Option Value} {base : Heap} {n : Nat} [F : Fam Xf P w K mg base n]
variable {m m1 m2 m3 : List Ty} {pos p p2 apos cpos xp : Pos} {a b c : Expr} {f g h : Ef}
end
end DL

/-! calls that may raise within a body that may raise; loops there; try around any such body -/
namespace DL
open PySem L2 PySem.Spec
def sAsgE (tw : CT) (j : Nat) (f : Ef) : Sf := fun e => (f e).bind fun p => (gIsOk tw p.1).bind fun w => (asB w).bind fun b => if b = true then (gUn p.1).bind fun d => some (.nx, p.2.set j d) else some (.rt p.1, p.2)
def sDropE (tw : CT) (f : Ef) : Sf := fun e => (f e).bind fun p => (gIsOk tw p.1).bind fun w => (asB w).bind fun b => if b = true then some (.nx, p.2) else some (.rt p.1, p.2)
def sRetE (tw : CT) (f : Ef) : Sf := fun e => (f e).bind fun p => (gIsOk tw p.1).bind fun _ => some (.rt p.1, p.2)
def tryR (tb : CT) (j : Nat) (fs : Sf) : Out × En → Option (Out × En)
  | (.rt v, e) => (gIsOk tb v).bind fun w => (asB w).bind fun b => if b = true then (gUn v).bind fun d => some (.rt d, e) else fs (e.set j v)
  | (.nx, e) => some (.nx, e)
  | (.bk, e) => some (.bk, e)
  | (.ct, e) => some (.ct, e)
def tryR0 (tb : CT) (fs : Sf) : Out × En → Option (Out × En)
  | (.rt v, e) => (gIsOk tb v).bind fun w => (asB w).bind fun b => if b = true then (gUn v).bind fun d => some (.rt d, e) else fs e
  | (.nx, e) => some (.nx, e)
  | (.bk, e) => some (.bk, e)
  | (.ct, e) => some (.ct, e)
def sTryB (tb : CT) (j : Nat) (fb fs : Sf) : Sf := fun e => (fb e).bind (tryR tb j fs)
def sTryC (tb : CT) (fb fs : Sf) : Sf := fun e => (fb e).bind (tryR0 tb fs)
section
variable {tw tG tb : CT} {j : Nat} {Fn : DFn} {fr : Lf}
end
section
variable {K : PySem.W.Frag} {mg : Str → Option Value} {M : Mk} {G H G1 H1 : Hp} {m m1 m2 mn mx ml : List Ty} {W : WX} {σ σ1 : St} {e : En} {A A1 : List Addr} {D : Ends} {e' : En} {t u : TS} {f : Sf} {gf : Gf} {lf : Lf} {tb : CT}
theorem DSX.for {wk : Bool} {wi : L2.TI} {tg : TG} {sl : List Nat} (hi : DI K wk m wi lf m1) (l1 : LeM m1 ml) (hg : DG K wk ml tg sl gf m2) (hb : DSX K mg { M with b := mn, c := ml } mx W m2 t (decX tb f) ml) (l2 : LeM ml mn) (hp : ∀ j ∈ M.po, j ∉ sl) :
    DSX K mg M mx W m (tFor wi tg t) (decX tb (sFor lf gf f)) mn := by
  intro G H σ e A oX e' D st hf0 k
  obtain ⟨⟨o, e9⟩, hf, hdec⟩ := Option.bind_eq_some_iff.mp hf0
  obtain ⟨⟨ds, e1⟩, hf1, hf⟩ := Option.bind_eq_some_iff.mp hf
  refine hi st hf1 fun G1 H1 A1 J s1 st1 wk hz => ?_
  obtain ⟨G2, A2, s2, st2⟩ := stt_le l1 st1
  let T := fun (i : Nat) (σc : St) (Hc : Hp) => ∃ Gc ec A', Step A G H A' Gc Hc ∧ Same G1 Gc ∧ Stt K ml Gc Hc σc ec A' ∧ Pin M.po σ σc ∧ forL gf f (ds.drop i) ec = some (o, e9)
  refine ⟨fun i mm σc Hc => mm = ds.length - i ∧ i ≤ ds.length ∧ T i σc Hc, ⟨ds.length, by omega, Nat.zero_le _, G2, e1, A2, s1.seq0 s2, s2.sg, st2, Pin.refl, hf⟩, ?_⟩
  rintro i mm σc Hc ⟨rfl, hle, Gc, ec, A', sc, sg, stc, pc, hl⟩
  have sub1 : Same G1 Hc := sg.trans stc.sub
  by_cases hi : i < ds.length
  · refine .inr ⟨wk.goes i Hc hi sub1, fun σn Hn => i < ds.length ∧ T (i + 1) σn Hn, fun σn Hn hn => ⟨ds.length - (i + 1), by omega, rfl, by omega, hn.2⟩, fun x Hy hy => ?_⟩
    obtain ⟨Gy, sy, sty, sgy, qy⟩ := wk.yields hi sg stc hy
    have hd : ds.drop i = ds[i] :: ds.drop (i + 1) := List.drop_eq_getElem_cons hi
    rw [hd] at hl
    unfold forL at hl
    obtain ⟨e2, hl1, hl⟩ := Option.bind_eq_some_iff.mp hl
    obtain ⟨⟨o3, e3⟩, hl2, hl⟩ := Option.bind_eq_some_iff.mp hl
    refine hg sty (qy _ (List.getElem?_eq_getElem hi)) hl1 fun G3 H3 σ3 A3 s3 st3 k3 l3 => ?_
    have p3 : Pin M.po σ σ3 := pc.trans fun j hj => k3 j (hp j hj)
    have s03 := (sc.seq0 sy).seq0 s3
    cases o3 with
    | nx =>
      refine hb (o := .o .nx) (e' := e3) st3 (by unfold decX; rw [hl2]; rfl) ?_
      exact fun G4 H4 σ4 A4 s4 st4 p4 => ⟨hi, G4, e3, A4, s03.seq0 s4, ((sg.trans sgy).trans s3.sg).trans s4.sg, st4, p3.trans p4, hl⟩
    | ct =>
      refine hb (o := .o .ct) (e' := e3) st3 (by unfold decX; rw [hl2]; rfl) ?_
      exact fun G4 H4 σ4 A4 s4 st4 p4 => ⟨hi, G4, e3, A4, s03.seq0 s4, ((sg.trans sgy).trans s3.sg).trans s4.sg, st4, p3.trans p4, hl⟩
    | bk =>
      cases hl
      cases hdec
      refine hb (o := .o .bk) st3 (by unfold decX; rw [hl2]; rfl) ?_
      exact fun G4 H4 σ4 A4 s4 st4 p4 => k G4 H4 σ4 A4 (s03.seq0 s4) st4 (p3.trans p4)
    | rt r =>
      cases hl
      obtain ⟨r1, h9, h10⟩ := Option.bind_eq_some_iff.mp hdec
      cases r1 with
      | ok d =>
        cases h10
        refine hb (o := .o (.rt d)) st3 (by unfold decX; rw [hl2]; show ((decR tb r).bind _ : Option (OutX × En)) = _; rw [h9]; rfl) ?_
        exact fun G4 H4 σ4 v Av A4 s4 st4 o4 nd4 p4 => k G4 H4 σ4 v Av A4 (s03.seq0 s4) st4 o4 nd4 (p3.trans p4)
      | ex c fs =>
        cases h10
        refine hb (o := .ex c fs) st3 (by unfold decX; rw [hl2]; show ((decR tb r).bind _ : Option (OutX × En)) = _; rw [h9]; rfl) ?_
        exact fun G4 H4 σ4 A4 cls dx s4 st4 p4 ex => k G4 H4 σ4 A4 cls dx (s03.seq0 s4) st4 (p3.trans p4) ex
  · have hie : i = ds.length := by omega
    subst hie
    rw [List.drop_length] at hl
    cases hl
    cases hdec
    obtain ⟨G4, A4, s4, st4⟩ := stt_le l2 stc
    exact .inl ⟨wk.stops Hc sub1, k G4 Hc σc A4 (sc.seq0 s4) st4 pc⟩
theorem DSX.post {js jr : List Nat} (h : DSX K mg M mx W m t (decX tb f) mn) (o1 : fgOk js mn = true) (o2 : fgOk js M.b = true) (o3 : fgOk js M.c = true) (o4 : fgOk jr M.r = true) (o5 : fgOk jr mx = true) : DSX K mg M mx W m t (decX tb (sPost js jr f)) mn := by
  intro G H σ e A o e' D st hf k
  obtain ⟨⟨oo, ee⟩, hf1, hf⟩ := Option.bind_eq_some_iff.mp hf
  obtain ⟨⟨o0, e0⟩, hf2, hf3⟩ := Option.bind_eq_some_iff.mp hf1
  simp only [Option.some.injEq, Prod.mk.injEq] at hf3
  obtain ⟨rfl, rfl⟩ := hf3
  cases o0 with
  | nx =>
    cases hf
    refine h (o := .o .nx) (e' := e0) st (by unfold decX; rw [hf2]; rfl) ?_
    exact fun G' H' σ' A' s' st' p' => k G' H' σ' A' s' (stt_fg o1 st') p'
  | bk =>
    cases hf
    refine h (o := .o .bk) (e' := e0) st (by unfold decX; rw [hf2]; rfl) ?_
    exact fun G' H' σ' A' s' st' p' => k G' H' σ' A' s' (stt_fg o2 st') p'
  | ct =>
    cases hf
    refine h (o := .o .ct) (e' := e0) st (by unfold decX; rw [hf2]; rfl) ?_
    exact fun G' H' σ' A' s' st' p' => k G' H' σ' A' s' (stt_fg o3 st') p'
  | rt r =>
    obtain ⟨r1, h9, h10⟩ := Option.bind_eq_some_iff.mp hf
    cases r1 with
    | ok d =>
      cases h10
      refine h (o := .o (.rt d)) (e' := e0) st (by unfold decX; rw [hf2]; show ((decR tb r).bind _ : Option (OutX × En)) = _; rw [h9]; rfl) ?_
      exact fun G' H' σ' v Av A' s' st' ov nd p' => k G' H' σ' v Av A' s' (stt_fg o4 st') ov nd p'
    | ex c fs =>
      cases h10
      refine h (o := .ex c fs) (e' := e0) st (by unfold decX; rw [hf2]; show ((decR tb r).bind _ : Option (OutX × En)) = _; rw [h9]; rfl) ?_
      exact fun G' H' σ' A' cls dx s' st' p' ex => k G' H' σ' A' cls dx s' (stt_fg o5 st') p' ex
end
section
variable {ι : Type} {Xf : ι → Cx} {W : WX} {P : Program} {w : World} {K : PySem.W.Frag} {mg : Str → Option Value} {base : Heap} {n : Nat} [F : Fam Xf P w K mg base n]
variable {M : Mk} {m m1 m2 mn mx ml : List Ty} {pos p p2 p3 cp spos np np2 pos' : Pos} {c v a tg iter : Expr} {es : List Expr} {st : Stmt} {rest body orelse suite : List Stmt} {b₀ : Stmt} {f g fb fs : Sf} {gf : Gf} {lf : Lf} {fx gx : SfX} {bf : Bf} {ef : Ef} {fr : Lf} {tys : List Ty} {L : List (Option Nat)} {tb tw tG : CT} {rty ty : Ty} {Fn : DFn} {sl : List Nat}
end
section
variable {ι : Type} {Xf : ι → Cx} {P : Program} {w : World} {K : PySem.W.Frag} {mg : Str → Option Value} {base : Heap} {n : Nat} [F : Fam Xf P w K mg base n]
variable {M : Mk} {m mn mx : List Ty} {pos pos' np2 : Pos} {x nm : Str} {cx : Value} {body suite : List Stmt} {b₀ : Stmt} {fb fs : Sf}
end
end DL
namespace DL
end DL

/-! [y for x in xs for y in x] -/
namespace DL
open PySem L2 PySem.Spec
def flatD : List PyData → Option (List PyData)
  | [] => some []
  | d :: ds => (seqD d).bind fun xs => (flatD ds).bind fun ys => some (xs ++ ys)
def gFlat (d : PyData) : Option PyData := (seqD d).bind fun ds => (flatD ds).bind fun ys => if ys.length ≤ sizeLine then some (.list ys) else none
theorem flat_snoc : ∀ {ds : List PyData} {d : PyData} {ys xs : List PyData}, flatD ds = some ys → seqD d = some xs → flatD (ds ++ [d]) = some (ys ++ xs)
  | [], d, ys, xs, h, h2 => by
    cases h
    show (seqD d).bind _ = _
    rw [h2]
    show some (xs ++ []) = some ([] ++ xs)
    rw [List.append_nil, List.nil_append]
  | c :: ds, d, ys, xs, h, h2 => by
    obtain ⟨cs, h3, h4⟩ := Option.bind_eq_some_iff.mp h
    obtain ⟨zs, h5, h6⟩ := Option.bind_eq_some_iff.mp h4
    cases h6
    have := flat_snoc h5 h2
    show (seqD c).bind _ = _
    rw [h3, Option.bind_some]
    show (flatD (ds ++ [d])).bind _ = _
    rw [this, Option.bind_some, List.append_assoc]
theorem flat_some : ∀ {ds ys : List PyData} {i : Nat}, flatD ds = some ys → i < ds.length → ∃ xs, seqD (ds[i]?.getD .none) = some xs
  | d :: ds, ys, 0, h, _ => by
    obtain ⟨cs, h3, _⟩ := Option.bind_eq_some_iff.mp h
    exact ⟨cs, h3⟩
  | d :: ds, ys, i + 1, h, hi => by
    obtain ⟨cs, h3, h4⟩ := Option.bind_eq_some_iff.mp h
    obtain ⟨zs, h5, _⟩ := Option.bind_eq_some_iff.mp h4
    have := flat_some h5 (show i < ds.length by simpa using hi)
    simpa using this
theorem flat_cut : ∀ {ds ys : List PyData} (i : Nat), flatD ds = some ys → ∃ zs, flatD (ds.take i) = some zs ∧ zs.length ≤ ys.length
  | ds, ys, 0, h => ⟨[], rfl, Nat.zero_le _⟩
  | [], ys, i + 1, h => ⟨ys, h, Nat.le_refl _⟩
  | d :: ds, ys, i + 1, h => by
    obtain ⟨cs, h3, h4⟩ := Option.bind_eq_some_iff.mp h
    obtain ⟨zs, h5, h6⟩ := Option.bind_eq_some_iff.mp h4
    cases h6
    obtain ⟨ws, h7, h8⟩ := flat_cut i h5
    refine ⟨cs ++ ws, ?_, by simp only [List.length_append]; omega⟩
    show (seqD d).bind _ = _
    rw [h3, Option.bind_some]
    show (flatD (ds.take i)).bind _ = _
    rw [h7]; rfl
/-- the environments agree off vs -/
def Agr (vs : List Nat) (a b : En) : Prop := a.length = b.length ∧ ∀ k, k ∉ vs → a[k]? = b[k]?
theorem Agr.set {vs : List Nat} {a b : En} {v : Nat} {d : PyData} (h : Agr vs a b) (hv : v ∈ vs) : Agr vs (a.set v d) b :=
  ⟨by rw [List.length_set]; exact h.1, fun k hk => by rw [List.getElem?_set_ne fun z => hk (by rw [← z]; exact hv)]; exact h.2 k hk⟩
theorem Agr.rest {vs : List Nat} {a b : En} (h : Agr vs a b) : restE b a vs = b := by
  induction vs generalizing a with
  | nil => exact List.ext_getElem? fun k => h.2 k (by simp)
  | cons v vs ih =>
    unfold restE
    refine ih ⟨by rw [List.length_set]; exact h.1, fun k hk => ?_⟩
    by_cases c : v = k
    · subst c
      rw [List.getElem?_set]
      by_cases l : v < a.length
      · rw [if_pos rfl, if_pos l, List.getD_eq_getElem?_getD, List.getElem?_eq_getElem (by rw [← h.1]; exact l)]; rfl
      · rw [if_pos rfl, if_neg l, List.getElem?_eq_none (by rw [← h.1]; omega)]
    · rw [List.getElem?_set_ne c]
      exact h.2 k fun z => by
        rcases List.mem_cons.mp z with z | z
        · exact c z.symm
        · exact hk z
section
variable {K : PySem.W.Frag} {G H : Hp} {m m1 m2 : List Ty}
/-- the mask and the slots of the next turn -/
theorem rest_next {vs : List Nat} {σ σ3 : St} {ec e5 : En} {A5 : List Addr} (le : LeM m2 (hideM m1 vs)) (us : usB m1 vs = true) (ws : wipe σ3 vs = wipe σ vs) (st5 : Stt K m2 G H σ3 e5 A5) :
    ∃ G6 A6, Step A5 G H A6 G6 H ∧ Stt K (hideM m1 vs) G6 H (wipe σ vs) (restE ec e5 vs) A6 := by
  obtain ⟨G6, A6, s6, st6⟩ := stt_le le st5
  refine ⟨G6, A6, s6, ⟨?_, st6.nd, st6.sub⟩⟩
  have hidem : ∀ (us : List Nat) (e' : En) (σ' : St) {A : List Addr} {H : Hp} {G : Hp} {mm : List Ty}, OwnA K G H mm e' σ' A → (∀ v ∈ us, mm[v]? = some .u) → OwnA K G H mm (restE ec e' us) (wipe σ' us) A := by
    intro us
    induction us with
    | nil => intro e' σ' A H G mm h _; exact h
    | cons v us ih =>
      intro e' σ' A H G mm h hu
      unfold restE wipe
      have hv := hu v (List.mem_cons_self ..)
      have a := ownA_set0 (t := .u) (d := ec.getD v .none) (v := none) h (.inl hv) (.u _ _)
      rw [set_id hv] at a
      have b := ih _ _ a fun x hx => hu x (List.mem_cons_of_mem _ hx)
      have c : wipe (σ'.set v none) us = (wipe σ' us).set v none := by
        clear ih a b hv hu h
        induction us with
        | nil => rfl
        | cons u us ihu =>
          unfold wipe
          rw [ihu]
          by_cases q : u = v
          · subst q; rfl
          · rw [List.set_comm _ _ (fun z => q z.symm)]
      rw [c] at b; exact b
  have hu : ∀ v ∈ vs, (hideM m1 vs)[v]? = some .u := by
    have aux : ∀ us : List Nat, usB m1 us = true → ∀ v ∈ us, (hideM m1 us)[v]? = some .u := by
      intro us
      induction us with
      | nil => intro _ v h; cases h
      | cons u us ih =>
        intro hus v hv
        obtain ⟨h1, h2, h3⟩ := us_cons hus
        unfold hideM
        by_cases q : u = v
        · subst q
          have : u < (hideM m1 us).length := by
            rw [← hideM_get (m := m1) h2] at h1
            rcases h1 with z | z <;> exact (List.getElem?_eq_some_iff.mp z).1
          simp [this]
        · rw [List.getElem?_set_ne q]
          rcases List.mem_cons.mp hv with z | z
          · exact absurd z.symm q
          · exact ih h3 v z
    exact aux vs us
  have := hidem vs e5 σ3 st6.own hu
  rw [ws] at this
  exact this
end
theorem Agr.rest2 {vs ws : List Nat} {a b c : En} (h : Agr ws a c) (hb : Agr ws b c) (sub : ∀ v ∈ vs, v ∈ ws) : Agr ws (restE b a vs) c := by
  induction vs generalizing a with
  | nil => exact h
  | cons v vs ih => exact ih (h.set (sub v (List.mem_cons_self ..))) fun x hx => sub x (List.mem_cons_of_mem _ hx)
theorem DE.flat {K : PySem.W.Frag} {m m1 : List Ty} {wk : Bool} {wi wi1 : L2.TI} {g g1 : TG} {tt tt1 : TT} {te : TE} {f : Ef} {j0 j1 : Nat} {ml mi : List Ty} (hi : DI K wk m wi (iSeq f) m1)
    (hm2 : hideM m1 [j0, j1] = ml) (hg : DG K wk ml g [j0] (gNm j0) (ml.set j0 .s)) (ht : DT K (ml.set j0 .s) tt bYes (ml.set j0 .s)) (hi1 : DI K false (ml.set j0 .s) wi1 (iSeq (eVar j0)) (ml.set j0 .s))
    (hmi : hideM (ml.set j0 .s) [j1] = mi) (hg1 : DG K false mi g1 [j1] (gNm j1) (mi.set j1 .s)) (ht1 : DT K (mi.set j1 .s) tt1 bYes (mi.set j1 .s)) (he : DE K (mi.set j1 .s) te .s (eVar j1) (mi.set j1 .s))
    (us : usB m1 [j0, j1] = true) (us1 : usB (ml.set j0 .s) [j1] = true) (l1 : LeM (mi.set j1 .s) (hideM (ml.set j0 .s) [j1])) (l0 : LeM mi (hideM m1 [j0, j1])) (hj0 : j0 < m1.length) (hj1 : j1 < m1.length) :
    DE K m (tLc2 wi g tt wi1 g1 tt1 te [j0, j1] [j1]) (.l .s) (e1 gFlat f) m1 := by
  intro G H σ e A d e' Q st hf k
  unfold e1 at hf
  obtain ⟨⟨d1, e1⟩, hf1, hf⟩ := Option.bind_eq_some_iff.mp hf
  obtain ⟨r0, hf2, hf⟩ := Option.bind_eq_some_iff.mp hf
  cases hf
  unfold gFlat at hf2
  obtain ⟨ds, hds, hf2⟩ := Option.bind_eq_some_iff.mp hf2
  obtain ⟨ys, hys, hf2⟩ := Option.bind_eq_some_iff.mp hf2
  obtain ⟨hyl, rfl⟩ := ite_some hf2
  refine hi st (show iSeq f e = some (ds, e1) by unfold iSeq; rw [hf1]; show (seqD d1).bind _ = _; rw [hds]; rfl) fun G1 H1 A1 J s1 st1 wkJ hz => ?_
  intro D hD
  have st1' : Stt K (hideM m1 [j0, j1]) G1 H1 (wipe σ [j0, j1]) e1 A1 := ⟨wipeA st1.own us, st1.nd, st1.sub⟩
  obtain ⟨s2, st2, nd2, gD⟩ := new_o (o := .lst []) (B := []) st1' hD
  have len1 : e1.length = m1.length := (ownA_len st1.own).1.symm
  let T := fun (i : Nat) (Hc : Hp) => ∃ Gc ec A' acc da, LcI K (hideM m1 [j0, j1]) .s A1 G1 H1 D (wipe σ [j0, j1]) Gc Hc ec A' [] acc da ∧ flatD (ds.take i) = some da ∧ Agr [j0, j1] ec e1
  refine ⟨fun i mm Hc => mm = ds.length - i ∧ i ≤ ds.length ∧ T i Hc, ⟨ds.length, by omega, Nat.zero_le _, G1, e1, A1, [], [], ⟨s2, st2, upd_same, gD, .nil, nd2⟩, rfl, rfl, fun k _ => rfl⟩, ?_⟩
  rintro i mm Hc ⟨rfl, hle, Gc, ec, A', acc, da, I, hda, agr⟩
  have sub1 : Same G1 Hc := I.step.sg.trans I.st.sub
  by_cases hi' : i < ds.length
  · refine .inr ⟨wkJ.goes i Hc hi' sub1, fun Hn => i < ds.length ∧ T (i + 1) Hn, fun Hn hn => ⟨ds.length - (i + 1), by omega, rfl, by omega, hn.2⟩, fun x Hy hy => ?_⟩
    obtain ⟨Gy, sy, sty, sgy, qy⟩ := wkJ.yields hi' I.step.sg I.st hy
    have sty' : Stt K ml Gy Hy (wipe σ [j0, j1]) ec A' := by rw [← hm2]; exact sty
    obtain ⟨xs, hxs⟩ := flat_some hys hi'
    rw [List.getElem?_eq_getElem hi'] at hxs
    have hxs : seqD ds[i] = some xs := hxs
    refine hg sty' (qy _ (List.getElem?_eq_getElem hi')) rfl fun G3 H3 σ3 A3 s3 st3 k3 l3 => ⟨wipe_eq (fun j hj => by simp at hj; simp [hj]) k3 l3, ?_⟩
    have wσ : wipe σ3 [j0, j1] = wipe σ [j0, j1] := wipe_eq (fun j hj => by simp at hj; simp [hj]) k3 l3
    refine ht st3 rfl fun G4 H4 A4 s4 st4 => ?_
    rw [if_pos rfl]
    have lec : j0 < ec.length := by rw [agr.1, len1]; exact hj0
    have hv : iSeq (eVar j0) (ec.set j0 ds[i]) = some (xs, ec.set j0 ds[i]) := by
      show ((some ((ec.set j0 ds[i]).getD j0 .none, ec.set j0 ds[i])).bind fun p => (seqD p.1).bind fun l => some (l, p.2)) = _
      rw [Option.bind_some, List.getD_eq_getElem?_getD, List.getElem?_set_self lec]
      show (seqD ds[i]).bind _ = _
      rw [hxs]; rfl
    refine hi1 st4 hv fun G5 H5 A5 J1 s5 st5 wk1 hz1 => ?_
    have s35 := ((sy.seq0 s3).seq0 s4).seq0 s5
    obtain ⟨s6, nd6, atD6, gD6, own6⟩ := I.move s35 st5.nd
    have st6 : Stt K (hideM (ml.set j0 .s) [j1]) G5 H5 (wipe σ3 [j1]) (ec.set j0 ds[i]) A5 := ⟨wipeA st5.own us1, st5.nd, st5.sub⟩
    have agr0 : Agr [j0, j1] (ec.set j0 ds[i]) e1 := agr.set (by simp)
    have snoc := flat_snoc hda hxs
    rw [← List.take_succ_eq_append_getElem hi'] at snoc
    have cut := flat_cut (i + 1) hys
    rw [snoc] at cut
    obtain ⟨zs, hzs, hzl⟩ := cut
    cases hzs
    rw [List.length_append] at hzl
    let T1 := fun (j : Nat) (Hc : Hp) => ∃ Gc ec1 A' acc1, LcI K (hideM (ml.set j0 .s) [j1]) .s A1 G1 H1 D (wipe σ3 [j1]) Gc Hc ec1 A' [] acc1 (da ++ xs.take j) ∧ Agr [j0, j1] ec1 e1 ∧ Same G5 Gc
    refine ⟨fun j kk Hc => kk = xs.length - j ∧ j ≤ xs.length ∧ T1 j Hc, ⟨xs.length, by omega, Nat.zero_le _, G5, ec.set j0 ds[i], A5, acc, ⟨s6, st6, atD6, gD6, by rw [List.take_zero, List.append_nil]; exact own6, nd6⟩, agr0, Same.refl _⟩, ?_⟩
    rintro j kk Hc1 ⟨rfl, hle1, Gc1, ec1, A'1, acc1, I1, agr1, sg1⟩
    by_cases hj : j < xs.length
    · refine .inr ⟨wk1.goes j Hc1 hj (sg1.trans I1.st.sub), fun Hn => j < xs.length ∧ T1 (j + 1) Hn, fun Hn hn => ⟨xs.length - (j + 1), by omega, rfl, by omega, hn.2⟩, fun y Hy1 hy1 => ?_⟩
      obtain ⟨Gy1, sy1, sty1, sgy1, qy1⟩ := wk1.yields hj sg1 I1.st hy1
      have sty1' : Stt K mi Gy1 Hy1 (wipe σ3 [j1]) ec1 A'1 := by rw [← hmi]; exact sty1
      refine hg1 sty1' (qy1 _ (List.getElem?_eq_getElem hj)) rfl fun G7 H7 σ7 A7 s7 st7 k7 l7 => ⟨wipe_eq (fun j hj => hj) k7 l7, ?_⟩
      have wσ7 : wipe σ7 [j1] = wipe σ3 [j1] := wipe_eq (fun j hj => hj) k7 l7
      refine ht1 st7 rfl fun G8 H8 A8 s8 st8 => ?_
      rw [if_pos rfl]
      have lec1 : j1 < ec1.length := by rw [agr1.1, len1]; exact hj1
      have hv1 : eVar j1 (ec1.set j1 xs[j]) = some (xs[j], ec1.set j1 xs[j]) := by
        show some ((ec1.set j1 xs[j]).getD j1 .none, ec1.set j1 xs[j]) = _
        rw [List.getD_eq_getElem?_getD, List.getElem?_set_self lec1]; rfl
      refine he st8 hv1 fun G9 H9 v Av A9 s9 st9 o9 nd9 => ?_
      cases o9 with
      | s q9 =>
        obtain ⟨G10, A10, s10, st10⟩ := rest_next (ec := ec1) l1 us1 wσ7 st9
        have s79 := ((sy1.seq0 s7).seq0 s8).seq0 (s9.seq0 s10)
        obtain ⟨sX, ndX, atX, gX, ownX⟩ := I1.move s79 st10.nd
        have hacc : acc1.length = (da ++ xs.take j).length := by have := (ownA_len I1.own).2; simpa using this
        have hz' : acc1.length < sizeLine := by
          rw [hacc, List.length_append, List.length_take]; omega
        refine ⟨acc1, atX, hz', hj, G10, restE ec1 (ec1.set j1 xs[j]) [j1], A10, acc1 ++ [v], ?_, Agr.rest2 (agr1.set (by simp)) agr1 (fun v hv => by simp at hv; simp [hv]), ((sg1.trans sgy1).trans (s7.sg.trans s8.sg)).trans (s9.sg.trans s10.sg)⟩
        have nD : ∀ a ∈ A10, a ≠ D := fun a ha z => (List.nodup_cons.mp ndX).1 (z ▸ ha)
        have frD : ∀ a, a ≠ D → upd H9 D (.lst (acc1 ++ [v])) a = H9 a := fun a ha => upd_ne ha
        refine ⟨⟨sX.sg, fun a o h ha => ?_, sX.own, sX.gnew⟩, ⟨ownA_fr st10.own (Same.refl _) (fun a ha => (ownA_at st10.own a ha).1) fun a ha => frD a (nD a ha), st10.nd, fun b x hx => ?_⟩, upd_same, gX, ?_, ndX⟩
        · rw [frD a (ne_of_none h hD)]; exact sX.fr a o h ha
        · rw [frD b (ne_of_none hx gX)]; exact st10.sub b x hx
        · have a1 : OwnA K G10 (upd H9 D (.lst (acc1 ++ [v]))) (List.replicate (da ++ xs.take j).length .s) (da ++ xs.take j) (acc1.map some) [] := ownA_fr ownX (Same.refl _) (fun a ha => by cases ha) fun a ha => by cases ha
          have a2 : Own K G10 (upd H9 D (.lst (acc1 ++ [v]))) .s xs[j] (some v) [] := .s (q9.mono s10.sg)
          have a3 := ownA_snoc a1 a2
          have eda : da ++ xs.take (j + 1) = (da ++ xs.take j) ++ [xs[j]] := by rw [List.take_succ_eq_append_getElem hj, List.append_assoc]
          rw [eda, List.length_append, List.length_singleton, List.replicate_succ', List.map_append]
          exact a3
    · have hje : j = xs.length := by omega
      subst hje
      refine .inl ⟨wk1.stops Hc1 (sg1.trans I1.st.sub), hi', ?_⟩
      have own1 : Stt K mi Gc1 Hc1 (wipe σ3 [j1]) ec1 A'1 := by rw [← hmi]; exact I1.st
      have ww : wipe (wipe σ3 [j1]) [j0, j1] = wipe σ [j0, j1] := by
        rw [← wσ]
        show (((σ3.set j1 none).set j1 none).set j0 none) = ((σ3.set j1 none).set j0 none)
        rw [List.set_set]
      obtain ⟨G11, A11, s11, st11⟩ := rest_next (ec := ec1) l0 us ww own1
      obtain ⟨sX, ndX, atX, gX, ownX⟩ := I1.move s11 st11.nd
      rw [List.take_length] at ownX
      refine ⟨G11, restE ec1 ec1 [j0, j1], A11, acc1, da ++ xs, ⟨sX, st11, atX, gX, ownX, ndX⟩, snoc, Agr.rest2 agr1 agr1 fun v hv => hv⟩
  · have hie : i = ds.length := by omega
    subst hie
    refine .inl ⟨wkJ.stops Hc sub1, ?_⟩
    rw [List.take_length, hys] at hda
    cases hda
    have un := unwipeA (e' := ec) st1.own I.step.sg us I.st.own
    rw [agr.rest] at un
    refine k Gc Hc (.ref D) [D] A' (s1.seq0 ⟨I.step.sg, I.step.fr, I.step.own, I.step.gnew⟩) ⟨un, I.st.nd, I.st.sub⟩ (.l I.gD I.atD ?_ I.own) I.nd
    have hacc := (ownA_len I.own).2
    rw [List.length_map] at hacc
    omega
section
variable {ι : Type} {Xf : ι → Cx} {P : Program} {w : World} {K : PySem.W.Frag} {mg : Str → Option Value} {base : Heap} {n : Nat} [F : Fam Xf P w K mg base n]
variable {m m1 : List Ty} {pos p0 p1 p2 p3 : Pos} {iter : Expr} {scope : Scope} {f : Ef} {x0 x1 : Str} {j0 j1 : Nat}
end
end DL

/-! owned lists read as stable ones for the time of one expression -/
namespace DL
open PySem L2 PySem.Spec
def sc1 : PyData → Bool
  | .none => true
  | .bool _ => true
  | .int _ => true
  | .str _ => true
  | _ => false
def flat1 : PyData → Bool
  | .tuple xs => xs.all sc1
  | d => sc1 d
def eThaw (f : Ef) : Ef := fun e => (f e).bind fun p => (grd (flat1 p.1)).bind fun _ => some p
section
variable {f g h : Ef} {fb gb : Bf} {fl gl : Lf} {fo go : Of} {gf : Gf} {gs : Gsf} {vs : List Nat} {fq gq : Gq}
theorem Agr.refl {vs : List Nat} {a : En} : Agr vs a a := ⟨rfl, fun _ _ => rfl⟩
theorem Agr.trans {vs : List Nat} {a b c : En} (h : Agr vs a b) (k : Agr vs b c) : Agr vs a c := ⟨h.1.trans k.1, fun j hj => (h.2 j hj).trans (k.2 j hj)⟩
end
section
variable {K : PySem.W.Frag} {G G' H H' : Hp}
end
/-- while True -/
def bTrue : Bf := fun e => some (true, e)
end DL

namespace DL
open PySem L2 PySem.Spec
def gAugS (l i y : PyData) : Option PyData := match l, i, y with
  | .list ds, .int k, .int y => (ixN ds.length k).bind fun j => match ds[j]? with
    | some (.int x) => if 0 ≤ k then some (.list (ds.set j (.int (x + y)))) else none
    | _ => none
  | _, _, _ => none
/-- o[i] += v, the list at a place -/
def sAugS (g : Gq) (pt : Pf) (gi gv : Gq) : Sf := fun e => (g e).bind fun d => (gi e).bind fun i => (gv e).bind fun v => (gAugS d i v).bind fun l => some (.nx, pt e l)
section
variable {K : PySem.W.Frag} {G H G1 H1 : Hp} {m m1 m2 mn : List Ty} {σ : St} {e : En} {A A1 : List Addr} {t : Ty} {ts : List Ty} {M : Mk}
end
section
variable {ι : Type} {Xf : ι → Cx} {P : Program} {w : World} {K : PySem.W.Frag} {mg : Str → Option Value} {base : Heap} {n : Nat} [F : Fam Xf P w K mg base n]
variable {M : Mk} {m m1 m2 mn ml : List Ty} {pos p p2 spos apos cpos : Pos} {a b c v o i : Expr} {f : Ef} {g gi gv : Gq} {pt : Pf} {t ty : Ty} {ts : List Ty}
end
end DL

/-! d.update({x: True for x in e}) -/
namespace DL
open PySem L2 PySem.Spec
/-! the data's side -/
def joinI {α : Type} (more kvs : List (Int × α)) : List (Int × α) := more.foldl (fun acc p => putI acc p.1 p.2) kvs
def yesI {α : Type} (is : List Int) (t : α) : List (Int × α) := is.foldl (fun acc i => putI acc i t) []
def dictI : List (PyData × PyData) → Option (List (Int × PyData))
  | [] => some []
  | (.int i, d) :: r => (dictI r).map ((i, d) :: ·)
  | _ :: _ => none
/-- d.update({x: True for x in s}) -/
def gUpdT (d s : PyData) : Option PyData := match d, s with
  | .dict kvs, .tuple xs => (dictI kvs).bind fun ds => (intsOf xs).bind fun is => if kvs.length + is.length < 100000 then some (.dict ((joinI (yesI is (.bool true)) ds).map kvD)) else none
  | _, _ => none
def eUpdT (j : Nat) (f : Ef) : Ef := fun e => (f e).bind fun p => (gUpdT (p.2.getD j .none) p.1).bind fun d => some (.none, p.2.set j d)
section
variable {K : PySem.W.Frag} {G H G1 H1 : Hp} {m m1 m2 mn : List Ty} {σ : St} {e : En} {A A1 : List Addr} {t : Ty} {ts : List Ty}
end
section
variable {ι : Type} {Xf : ι → Cx} {P : Program} {w : World} {K : PySem.W.Frag} {mg : Str → Option Value} {base : Heap} {n : Nat} [F : Fam Xf P w K mg base n]
variable {m m1 m2 m3 : List Ty} {pos p p2 apos cpos xp kp vp tp : Pos} {a b c e : Expr} {f g h : Ef} {scope : Scope} {jn : Option String}
end
end DL

namespace DL
open PySem L2 PySem.Spec
section
variable {K : PySem.W.Frag} {m m1 : List Ty} {M : Mk} {lf : Lf}
end
section
variable {ι : Type} {Xf : ι → Cx} {P : Program} {w : World} {K : PySem.W.Frag} {mg : Str → Option Value} {base : Heap} {n : Nat} [F : Fam Xf P w K mg base n]
variable {M : Mk} {m m1 m2 : List Ty} {pos p p2 apos cpos xp : Pos} {a b c : Expr} {f g h : Ef} {lf : Lf} {t1 t2 : Ty}
end
def eExtV (j l : Nat) : Ef := fun e => (gExt (e.getD j .none) (e.getD l .none)).bind fun d => some (.none, e.set j d)
section
variable {K : PySem.W.Frag} {m : List Ty}
end
section
variable {ι : Type} {Xf : ι → Cx} {P : Program} {w : World} {K : PySem.W.Frag} {mg : Str → Option Value} {base : Heap} {n : Nat} [F : Fam Xf P w K mg base n]
variable {m m1 : List Ty} {pos p p2 apos cpos xp yp : Pos}
end
end DL

/-! ### dicts whose keys are tuples of ints -/
namespace DL
open PySem L2 PySem.Spec
abbrev KT3 := List Int × Addr × V
section
variable {X : Cx} {pins : List (Addr × Obj)} {σ : St} {H : Hp} {s : Shared} {a b : Addr} {kvs : List KT3} {k : List Int} {A : Around} {E : Value → Shared → Prop}
end
end DL

namespace DL
open PySem L2 PySem.Spec
/-! the readings -/
section
variable {X : Cx} {o i value : Expr} {td ty tv : TE} {pos pos' : Pos}
end
/-! the data's side -/
def isKT (k : List Int) : PyData → Bool
  | .tuple xs => decide (intsOf xs = some k)
  | _ => false
def lookT (kvs : List (PyData × PyData)) (k : List Int) : Option PyData := (kvs.find? fun p => isKT k p.1).map (·.2)
def putTD (kvs : List (PyData × PyData)) (k : List Int) (x : PyData) : List (PyData × PyData) :=
  if (kvs.any fun p => isKT k p.1) = true then kvs.map (fun p => if isKT k p.1 = true then (p.1, x) else p) else kvs ++ [(.tuple (k.map .int), x)]
def gTGet (d k : PyData) : Option PyData := match d, k with
  | .dict kvs, .tuple xs => (intsOf xs).bind fun is => lookT kvs is
  | _, _ => none
def gTIn (n : Bool) (d k : PyData) : Option PyData := match d, k with
  | .dict kvs, .tuple xs => (intsOf xs).bind fun is => some (.bool (n != (lookT kvs is).isSome))
  | _, _ => none
def gTPut (d k x : PyData) : Option PyData := match d, k with
  | .dict kvs, .tuple xs => (intsOf xs).bind fun is => if kvs.length < sizeLine then some (.dict (putTD kvs is x)) else none
  | _, _ => none
section
variable {K : PySem.W.Frag} {G H G1 H1 : Hp} {m m1 m2 mn : List Ty} {σ : St} {e : En} {A A1 : List Addr}
end
def eTGet (j : Nat) (f : Ef) : Ef := fun e => (f e).bind fun p => (gTGet (p.2.getD j .none) p.1).bind fun d => some (d, p.2)
def sTPutD (j : Nat) (fi fv : Ef) : Sf := fun e => (fv e).bind fun p => (fi p.2).bind fun q => (gTPut (q.2.getD j .none) q.1 p.1).bind fun d => some (.nx, q.2.set j d)
section
variable {ι : Type} {Xf : ι → Cx} {P : Program} {w : World} {K : PySem.W.Frag} {mg : Str → Option Value} {base : Heap} {n : Nat} [F : Fam Xf P w K mg base n]
variable {M : Mk} {m m1 m2 m3 : List Ty} {pos p p2 spos pos' apos cpos xp : Pos} {a b c : Expr} {f g h : Ef}
end
end DL

namespace DL
open PySem L2 PySem.Spec
/-! ### {k: v} with a tuple as key; x not in f(..) for such a dict -/
section
variable {ι : Type} {Xf : ι → Cx} {P : Program} {w : World} {K : PySem.W.Frag} {mg : Str → Option Value} {base : Heap} {n : Nat} [F : Fam Xf P w K mg base n]
variable {M : Mk} {m m1 m2 m3 : List Ty} {pos p p2 spos pos' apos cpos xp : Pos} {a b c : Expr} {f g h : Ef}
/-- {k: v} -/
def gTOne (k v : PyData) : Option PyData := match k with
  | .tuple xs => (intsOf xs).bind fun is => some (.dict [(.tuple (is.map .int), v)])
  | _ => none
def eTOne (f g : Ef) : Ef := fun e => (f e).bind fun p => (g p.2).bind fun q => (gTOne p.1 q.1).bind fun d => some (d, q.2)
def eTInE (ng : Bool) (f g : Ef) : Ef := fun e => (f e).bind fun p => (g p.2).bind fun q => (gTIn ng q.1 p.1).bind fun d => some (d, q.2)
end
end DL

/-! ### sorted(set(xs)), xs a list of pairs of small ints -/
namespace DL
open PySem L2 PySem.Spec
section
variable {K : PySem.W.Frag} {G H : Hp}
end
section
variable {ι : Type} {Xf : ι → Cx} {P : Program} {w : World} {K : PySem.W.Frag} {mg : Str → Option Value} {base : Heap} {n : Nat} [F : Fam Xf P w K mg base n]
variable {m m1 : List Ty} {pos pos2 p p2 : Pos} {a : Expr} {f : Ef}
end
end DL

/-! ### set(a) ^ set(b), ints -/
namespace DL
open PySem L2 PySem.Spec
section
variable {P : Program} {w : World} {A : Around} {E : Value → Shared → Prop} {s : Shared} {a : Addr} {S : Int → Bool} {n : Nat}
end
end DL

namespace DL
open PySem L2 PySem.Spec
section
variable {P : Program} {w : World} {A : Around} {E : Value → Shared → Prop} {s : Shared} {a b : Addr} {S T : Int → Bool} {n m : Nat}
/-- in or out -/
def flipV (a : Addr) (h : Int) (x : Value) : Sem Unit := holding [x] do
  if !(← setDiscardHashed a x h) then
    let _ ← setAddHashed a x h
end
end DL

/-! ### a ^ b of sets of ints: the walk and the flips -/
namespace DL
open PySem L2 PySem.Spec
section
variable {P : Program} {w : World} {A : Around} {E : Value → Shared → Prop} {s : Shared} {a o : Addr} {S T : Int → Bool} {n m : Nat}
/-- each element flipped, o unchanged -/
def flips (id : String) (a o : Addr) (was : Nat) (ys : Array (Int × Value)) : Sem Unit := do
  for (h, x) in ys do
    flipV a h x
    Builtin.Frozenset.unchanged id o was
end
end DL

/-! ### a clean table with any mask that comes -/
namespace DL
open PySem L2 PySem.Spec
/-- n elements sit, each at a place -/
structure Sits (m n : Nat) (owner : Array (Option Nat)) : Prop where
  sz : owner.size = m + 1
  all : ∀ k, k < n → ∃ j, j ≤ m ∧ oAt owner j = some k
  few : ∃ ps : List Nat, ps.length = n ∧ ∀ j, j ≤ m → oAt owner j ≠ none → j ∈ ps
end DL

/-! ### a copy of a set of ints -/
namespace DL
open PySem L2 PySem.Spec
section
variable {P : Program} {w : World} {A : Around} {E : Value → Shared → Prop} {s : Shared} {a o : Addr} {S T : Int → Bool} {n m : Nat}
/-- a set without elements, and the mask of its table -/
def Bare (w : World) (h : Heap) (a : Addr) (M : Nat) : Prop :=
  ∃ ob ep t, h.get? a = some ob ∧ ob.ExactSet ∧ ob.data = .set #[] ep t ∧ t.place = #[] ∧ t.dummies = #[] ∧ t.mask = M ∧ (w.params.followText "set-order" = true ∨ t.led = true)
theorem Bare.setR {M : Nat} (B : Bare w s.heap a M) (hT : ∀ k, T k = false) : SetR w s.heap a T 0 := by
  obtain ⟨ob, ep, t, ho, hex, hd, hp, hdm, hM, hl⟩ := B
  refine ⟨ob, #[], ep, t, ho, hex, hd, fun e he => by simp at he, by simp, fun k => by rw [hT k]; simp, by decide, ?_, rfl, ?_, hl⟩
  · unfold SetTable.fits SetTable.fill
    rw [hp, hdm]
    simp
  · rw [hp]; exact List.Pairwise.nil
end
end DL

namespace DL
open PySem L2 PySem.Spec
section
variable {P : Program} {w : World} {A : Around} {E : Value → Shared → Prop} {s : Shared} {a o : Addr} {S T : Int → Bool} {n m : Nat}
end
end DL

namespace DL
open PySem L2 PySem.Spec
section
variable {P : Program} {w : World} {A : Around} {E : Value → Shared → Prop} {s : Shared} {a o l r : Addr} {S T : Int → Bool} {n m : Nat}
end
end DL

/-! ### sorted(set(a) ^ set(b)) -/
namespace DL
open PySem L2 PySem.Spec PyProof.Rows
section
variable {ι : Type} {Xf : ι → Cx} {P : Program} {w : World} {K : PySem.W.Frag} {mg : Str → Option Value} {base : Heap} {n : Nat} [F : Fam Xf P w K mg base n]
variable {m m1 m2 : List Ty} {pos p pos2 p2 pos3 p3 pos4 : Pos} {a b : Expr} {f g : Ef}
end
end DL

/-! ### for .. in reversed(a list) -/
namespace DL
open PySem L2 PySem.Spec PyProof.Rows
def gRv : PyData → Option (List PyData)
  | .list ds => some ds.reverse
  | _ => none
def iRv (f : Ef) : Lf := fun e => (f e).bind fun p => (gRv p.1).bind fun ds => some (ds, p.2)
@[simp] theorem riRv {f : Ef} {e : En} : iRv f e = (f e).bind fun p => (gRv p.1).bind fun ds => some (ds, p.2) := rfl
section
variable {ι : Type} {Xf : ι → Cx} {P : Program} {w : World} {K : PySem.W.Frag} {mg : Str → Option Value} {base : Heap} {n : Nat} [F : Fam Xf P w K mg base n]
variable {m m1 : List Ty} {pos p : Pos} {a tg : Expr} {f : Ef}
end
end DL

/-! ### range(a, b, -1) -/
namespace DL
open PySem L2 PySem.Spec PyProof.Rows
def rngDn (hi : Int) (n : Nat) : List PyData := (List.range n).map fun i => .int (hi - (i : Nat))
def rng3 : PyData → PyData → PyData → Option (List PyData)
  | .int i, .int j, .int c => if (i - j).toNat ≤ sizeLine ∧ -(2 ^ 62) ≤ i ∧ i < 2 ^ 62 ∧ -(2 ^ 62) ≤ j ∧ j < 2 ^ 62 ∧ c = -1 then some (rngDn i (i - j).toNat) else none
  | _, _, _ => none
def iR3 (f g h : Ef) : Lf := fun e => (f e).bind fun p => (g p.2).bind fun q => (h q.2).bind fun r => (rng3 p.1 q.1 r.1).bind fun ds => some (ds, r.2)
@[simp] theorem riR3 {f g h : Ef} {e : En} : iR3 f g h e = (f e).bind fun p => (g p.2).bind fun q => (h q.2).bind fun r => (rng3 p.1 q.1 r.1).bind fun ds => some (ds, r.2) := rfl
section
variable {ι : Type} {Xf : ι → Cx} {P : Program} {w : World} {K : PySem.W.Frag} {mg : Str → Option Value} {base : Heap} {n : Nat} [F : Fam Xf P w K mg base n]
variable {m m1 m2 m3 : List Ty} {pos p : Pos} {a b c tg : Expr} {f g h : Ef}
end
end DL

namespace DL
open PySem L2 PySem.Spec
section
variable {K : PySem.W.Frag} {m m1 : List Ty} {M : Mk} {lf : Lf}
end
section
variable {ι : Type} {Xf : ι → Cx} {P : Program} {w : World} {K : PySem.W.Frag} {mg : Str → Option Value} {base : Heap} {n : Nat} [F : Fam Xf P w K mg base n]
variable {M : Mk} {m m1 m2 : List Ty} {pos p p2 apos cpos xp : Pos} {a b c : Expr} {f g h : Ef} {lf : Lf} {t1 t2 t3 : Ty}
end
end DL

namespace DL
open PySem PySem.Spec L2
/-! `x[::-1]` of a stable list, kept as one's own -/
section
variable {ι : Type} {Xf : ι → Cx} {P : Program} {w : World} {K : PySem.W.Frag} {mg : Str → Option Value} {base : Heap} {n : Nat} [F : Fam Xf P w K mg base n]
variable {m m1 : List Ty} {a : Expr} {ef : Ef} {k : Nat} {p1 p2 p3 pos : Pos}
end
end DL

namespace DL
open PySem PySem.Spec L2
/-! ### objects: a place through a field, a field read -/
section
variable {K : PySem.W.Frag} {m : List Ty} {g : Gq} {pt : Pf} {t : Ty} {ts : List Ty} {ns : List Str} {C : Addr} {f : Str} {k : Nat}
end
section
variable {ι : Type} {Xf : ι → Cx} {P : Program} {w : World} {K : PySem.W.Frag} {mg : Str → Option Value} {base : Heap} {n : Nat} [F : Fam Xf P w K mg base n]
variable {m : List Ty} {pos : Pos} {a : Expr} {g : Gq} {pt : Pf} {t : Ty} {ts : List Ty} {ns : List Str} {C : Addr} {f : Str}
end
end DL

namespace DL
open PySem PySem.Spec L2
/-! ### objects: a field is stored -/
section
variable {K : PySem.W.Frag} {m m1 : List Ty} {g : Gq} {pt : Pf} {t : Ty} {ts : List Ty} {ns : List Str} {C : Addr} {f : Str} {k : Nat} {M : Mk}
end
section
variable {ι : Type} {Xf : ι → Cx} {P : Program} {w : World} {K : PySem.W.Frag} {mg : Str → Option Value} {base : Heap} {n : Nat} [F : Fam Xf P w K mg base n]
variable {M : Mk} {m m1 : List Ty} {pos spos : Pos} {o v : Expr} {g : Gq} {pt : Pf} {t : Ty} {ts : List Ty} {ns : List Str} {C : Addr} {f : Str} {ef : Ef}
end
end DL

namespace DL
open PySem PySem.Spec L2
/-! ### objects: a new field -/
def sNewF (j : Nat) (f : Ef) : Sf := fun e => (f e).bind fun p => match p.2.getD j .none with
  | .list ds => some (.nx, p.2.set j (.list (ds ++ [p.1])))
  | _ => none
section
variable {K : PySem.W.Frag} {m m1 : List Ty} {t : Ty} {ts : List Ty} {ns : List Str} {C : Addr} {f : Str} {M : Mk}
end
section
variable {ι : Type} {Xf : ι → Cx} {P : Program} {w : World} {K : PySem.W.Frag} {mg : Str → Option Value} {base : Heap} {n : Nat} [F : Fam Xf P w K mg base n]
variable {M : Mk} {m m1 : List Ty} {pos spos xp : Pos} {v : Expr} {t : Ty} {ts : List Ty} {ns : List Str} {C : Addr} {f : Str} {ef : Ef}
end
end DL

namespace DL
open PySem PySem.Spec L2
/-! ### objects: methods called, the object lent -/
section
variable {K : PySem.W.Frag} {m m1 m2 : List Ty} {fr : Lf} {tys : List Ty} {L : List (Option Nat)}
end
structure CalM (P : Program) (w : World) (K : PySem.W.Frag) (mg : Str → Option Value) (base : Heap) (k : Nat) (C : Addr) (x : Str) (ptys : List Ty) (rty : Ty) (Fn : DFn) : Prop where
  ex : ∃ (f : Addr) (fd : FuncData) (ps : List Str), FnG P w K mg base k f fd ps (spD K ptys rty Fn) ∧ Meth K C x f ∧ Binds K fd ps []
section
variable {K : PySem.W.Frag} {m m1 : List Ty} {rty : Ty} {ts : List Ty} {ns : List Str} {C : Addr} {x : Str} {ef : Ef} {sp : Sp} {tl : TA} {j : Nat}
end
section
variable {ι : Type} {Xf : ι → Cx} {P : Program} {w : World} {K : PySem.W.Frag} {mg : Str → Option Value} {base : Heap} {n : Nat} [F : Fam Xf P w K mg base n] [FG : FamG Xf]
variable {m m1 : List Ty} {pos apos xp : Pos} {a : Expr} {es : List Expr} {fr : Lf} {tys : List Ty} {L : List (Option Nat)} {C : Addr} {ns : List Str} {ts : List Ty}
end
end DL

namespace DL
open PySem PySem.Spec L2
section
variable {ι : Type} {Xf : ι → Cx} {P : Program} {w : World} {K : PySem.W.Frag} {mg : Str → Option Value} {base : Heap} {n : Nat} [F : Fam Xf P w K mg base n] [FG : FamG Xf]
variable {m m1 : List Ty} {pos apos xp : Pos} {a : Expr} {es : List Expr} {fr : Lf} {tys : List Ty} {L : List (Option Nat)} {C : Addr} {ns : List Str} {ts : List Ty}
end
end DL

namespace DL
open PySem PySem.Spec L2
/-! ### objects: made -/
/-- a def whose first parameter's fields are made in it -/
def spI (K : PySem.W.Frag) (pty pty' : Ty) (ptys : List Ty) (Fn : DFn) : Sp := fun vs H Q _ =>
  ∃ (d0 : PyData) (ds : List PyData) (fs : List PyData) (G : Hp) (A : List Addr), Fn (d0 :: ds) = some (.none, fs) ∧ OwnA K G H (pty :: ptys) (d0 :: ds) (vs.map some) A ∧ A.Nodup ∧ Same G H ∧
    ∀ (G' H' : Hp) (v : V) (A' : List Addr), Step A G H A' G' H' → OwnA K G' H' (pty' :: ptys) fs (vs.map some) A' → A'.Nodup → Same G' H' → v = .non → Q v H'
structure CalI (P : Program) (w : World) (K : PySem.W.Frag) (mg : Str → Option Value) (base : Heap) (k : Nat) (C : Addr) (x : Str) (ns : List Str) (ts ptys : List Ty) (Fn : DFn) : Prop where
  ex : ∃ (f : Addr) (fd : FuncData) (ps : List Str), FnG P w K mg base k f fd ps (spI K (.o C [] []) (.o C ns ts) ptys Fn) ∧ L2.Mk K C f ∧ mg x = some (.ref C) ∧ Binds K fd ps []
section
variable {ι : Type} {Xf : ι → Cx} {P : Program} {w : World} {K : PySem.W.Frag} {mg : Str → Option Value} {base : Heap} {n : Nat} [F : Fam Xf P w K mg base n] [FG : FamG Xf]
variable {m m1 : List Ty} {pos p : Pos} {a : Expr} {es : List Expr} {fr : Lf} {tys : List Ty} {L : List (Option Nat)} {C : Addr} {ns : List Str} {ts : List Ty}
end
end DL

namespace DL
open PySem PySem.Spec L2
def eMake (Fn : DFn) (r : Lf) : Ef := fun e => (r e).bind fun p => (Fn (.list [] :: p.1)).bind fun q => match q with
  | (.none, f0 :: _) => some (f0, p.2)
  | _ => none
section
variable {K : PySem.W.Frag} {m m1 : List Ty} {fr : Lf} {tys : List Ty} {L : List (Option Nat)} {C : Addr} {ns : List Str} {ts : List Ty} {Fn : DFn}
end
section
variable {ι : Type} {Xf : ι → Cx} {P : Program} {w : World} {K : PySem.W.Frag} {mg : Str → Option Value} {base : Heap} {n : Nat} [F : Fam Xf P w K mg base n] [FG : FamG Xf]
variable {m m1 : List Ty} {pos p : Pos} {a : Expr} {es : List Expr} {fr : Lf} {tys : List Ty} {L : List (Option Nat)} {C : Addr} {ns : List Str} {ts : List Ty}
end
end DL

namespace DL
open PySem PySem.Spec L2
/-! ### objects: the def that makes the fields -/
end DL

namespace DL
open PySem PySem.Spec L2
/-! ### objects only read: the frozen instance, borrowed -/
def flatN : Nat → PyData → Bool
  | 0, d => sc1 d
  | n + 1, .tuple xs => xs.all (flatN n)
  | _ + 1, d => sc1 d
def flatR : Ty → PyData → Bool
  | .s, d => flatN 3 d
  | .d, .dict kvs => kvs.all fun p => sc1 p.2
  | _, _ => false
/-- a method that only reads its object, called on an owned one -/
def borF (rty : Ty) (Fn : DFn) : DFn := fun ds => (Fn ds).bind fun p => (grd (flatR rty p.1)).bind fun _ => some (p.1, ds)
section
variable {K : PySem.W.Frag} {G G' H : Hp}
end
section
variable {P : Program} {w : World} {K : PySem.W.Frag} {mg : Str → Option Value} {base : Heap} {k : Nat} {f : Addr} {fd : FuncData} {ps : List Str} {C : Addr} {ns : List Str} {ts tys : List Ty} {rty : Ty} {Fn : DFn}
end
end DL

namespace DL
open PySem PySem.Spec L2
/-! ### fields looked at -/
section
variable {K : PySem.W.Frag} {G H : Hp} {ts : List Ty} {ns : List Str} {f : Str} {k : Nat} {t : Ty} {fs : List (Str × V)} {ds : List PyData} {A1 : List Addr} {d : PyData}
end
section
variable {K : PySem.W.Frag} {m : List Ty} {g : Gq} {pt : Pf} {t : Ty} {ts : List Ty} {ns : List Str} {C : Addr} {f : Str} {k j : Nat}
end
section
variable {ι : Type} {Xf : ι → Cx} {P : Program} {w : World} {K : PySem.W.Frag} {mg : Str → Option Value} {base : Heap} {n : Nat} [F : Fam Xf P w K mg base n]
variable {m : List Ty} {pos p : Pos} {a : Expr} {g : Gq} {pt : Pf} {t : Ty} {ts : List Ty} {ns : List Str} {C : Addr} {f : Str}
end
section
variable {ι : Type} {Xf : ι → Cx} {P : Program} {w : World} {K : PySem.W.Frag} {mg : Str → Option Value} {base : Heap} {n : Nat} [F : Fam Xf P w K mg base n] [FG : FamG Xf]
variable {m m1 : List Ty} {pos apos xp : Pos} {a : Expr} {es : List Expr} {fr : Lf} {tys : List Ty} {L : List (Option Nat)} {C : Addr} {ns : List Str}
end
end DL

namespace DL
open PySem PySem.Spec L2
/-! ### x.f.append(any value) -/
def gAppF (k : Nat) : PyData → PyData → Option PyData
  | .list ds, x => match ds[k]? with
    | some (.list xs) => if xs.length < sizeLine then some (.list (ds.set k (.list (xs ++ [x])))) else none
    | _ => none
  | _, _ => none
def eAppF (j k : Nat) (f : Ef) : Ef := fun e => (f e).bind fun p => (gAppF k (e.getD j .none) p.1).bind fun d => some (.none, p.2.set j d)
section
variable {K : PySem.W.Frag} {m m1 : List Ty} {t : Ty} {ts : List Ty} {ns : List Str} {C : Addr} {fl : Str} {k j : Nat} {f : Ef}
end
section
variable {ι : Type} {Xf : ι → Cx} {P : Program} {w : World} {K : PySem.W.Frag} {mg : Str → Option Value} {base : Heap} {n : Nat} [F : Fam Xf P w K mg base n]
variable {m m1 : List Ty} {pos xp fpos apos cpos : Pos} {v : Expr} {f : Ef} {ts : List Ty} {ns : List Str} {C : Addr} {fl : Str}
end
end DL

namespace DL
open PySem PySem.Spec L2
end DL

namespace DL
open PySem PySem.Spec L2 PyProof.Rows
/-! ### isinstance(x, (tuple, list)) -/
theorem k2 {K : PySem.W.Frag} {t : String} {a b : Bool} (h1 : kitB t "tuple" = some a) (h2 : kitB t "list" = some b) : PySem.W.kitAny K (.type t) [.type "tuple", .type "list"] = some (a || b) := by
  refine kitAny_cons (kit_ty h1) (fun z => ?_) fun z => by rw [z]; rfl
  rw [z]
  exact kitAny_cons (kit_ty h2) (fun z => by rw [z]; exact kitAny_nil) fun z => by rw [z]; rfl
section
variable {ι : Type} {Xf : ι → Cx} {P : Program} {w : World} {K : PySem.W.Frag} {mg : Str → Option Value} {base : Heap} {n : Nat} [F : Fam Xf P w K mg base n]
variable {m m1 : List Ty} {pos p p2 p3 p4 : Pos} {a : Expr} {f : Ef} {k1 : Nat}
end
end DL

namespace DL
open PySem PySem.Spec L2 PyProof.Rows
/-! ### sum(xs, ()) of tuples -/
/-- a tuple object without a dict -/
def IsTupN (h : Heap) (t : Addr) (its : Array Value) : Prop := ∃ o, h.get? t = some o ∧ o.cls = .type "tuple" ∧ o.dict = none ∧ ∃ n, o.data = .seq its n
theorem IsTupN.tup {h : Heap} {t : Addr} {its : Array Value} (e : IsTupN h t its) : IsTup h t its := by
  obtain ⟨o, h1, h2, _, h3⟩ := e
  exact ⟨o, h1, h2, h3⟩
section
variable {P : Program} {w : World} {A : Around} {E : Value → Shared → Prop} {u : Shared}
end
section
variable {P : Program} {w : World} {A : Around} {R : Result → Shared → Prop} {I : Addr} {fp wr : List Addr} {G : Array GenState → Array GenState → Prop} {n : Nat} {Pd : Nat → Value → Prop} {St : Nat → Shared → Prop}
end
section
variable {X : Cx}
end
end DL

namespace DL
open PySem PySem.Spec L2 PyProof.Rows
/-! ### sum(xs, ()): the rule -/
section
variable {ι : Type} {Xf : ι → Cx} {P : Program} {w : World} {K : PySem.W.Frag} {mg : Str → Option Value} {base : Heap} {n : Nat} [Fm : Fam Xf P w K mg base n] [FG : FamG Xf]
end
end DL

namespace DL
open PySem PySem.Spec L2
/-! ### an owned dict, locked while it is walked through -/
def gKeys : PyData → Option (List PyData)
  | .dict kvs => some (kvs.map (·.1))
  | _ => none
def iKy (j : Nat) : Lf := fun e => (gKeys (e.getD j .none)).bind fun ds => some (ds, e)
@[simp] theorem riKy {j : Nat} {e : En} : iKy j e = (gKeys (e.getD j .none)).bind fun ds => some (ds, e) := rfl
section
variable {K : PySem.W.Frag} {G H H' : Hp} {a : Addr} {o : Obj} {kvs : List (Int × V)}
end
section
variable {K : PySem.W.Frag} {m mn : List Ty} {M : Mk} {j : Nat}
end
section
variable {ι : Type} {Xf : ι → Cx} {P : Program} {w : World} {K : PySem.W.Frag} {mg : Str → Option Value} {base : Heap} {n : Nat} [F : Fam Xf P w K mg base n]
variable {m m1 mn : List Ty} {M : Mk}
end
/-! ### what is read of it -/
section
variable {K : PySem.W.Frag} {G H G1 H1 : Hp} {m m1 m2 : List Ty} {σ : St} {e : En} {A A1 : List Addr} {a : Addr} {o : Obj} {kvs : List (Int × V)}
end
section
variable {ι : Type} {Xf : ι → Cx} {P : Program} {w : World} {K : PySem.W.Frag} {mg : Str → Option Value} {base : Heap} {n : Nat} [F : Fam Xf P w K mg base n]
variable {m m1 m2 : List Ty} {ad : Addr} {ob : Obj} {kvs : List (Int × V)} {pos p xp : Pos} {a b tg : Expr} {f g : Ef}
end
end DL

/-! ### xs.extend(a tuple) -/
namespace PySem.AutoSeq1
end PySem.AutoSeq1
namespace DL
open PySem PySem.Spec L2
def gExtT (l x : PyData) : Option PyData := match l, x with
  | .list ds, .tuple es => if ds.length + es.length ≤ sizeLine then some (.list (ds ++ es)) else none
  | _, _ => none
def eExtT (j : Nat) (f : Ef) : Ef := fun e => (f e).bind fun p => (gExtT (p.2.getD j .none) p.1).bind fun l => some (.none, p.2.set j l)
@[simp] theorem rExtT {j : Nat} {f : Ef} {e : En} : eExtT j f e = (f e).bind fun p => (gExtT (p.2.getD j .none) p.1).bind fun l => some (.none, p.2.set j l) := rfl
section
variable {K : PySem.W.Frag} {m m1 : List Ty} {f : Ef}
end
section
variable {ι : Type} {Xf : ι → Cx} {P : Program} {w : World} {K : PySem.W.Frag} {mg : Str → Option Value} {base : Heap} {n : Nat} [F : Fam Xf P w K mg base n]
variable {m m1 : List Ty} {apos cpos xp : Pos} {v : Expr} {f : Ef}
end
end DL

namespace DL
open PySem PySem.Spec L2
/-! ### a + b of two owned lists, whatever they own -/
section
variable {K : PySem.W.Frag} {G H : Hp} {m m1 m2 : List Ty} {f g : Ef} {t : Ty}
end
section
variable {ι : Type} {Xf : ι → Cx} {P : Program} {w : World} {K : PySem.W.Frag} {mg : Str → Option Value} {base : Heap} {n : Nat} [F : Fam Xf P w K mg base n]
variable {m m1 m2 : List Ty} {pos : Pos} {a b : Expr} {f g : Ef} {t : Ty}
end
end DL

namespace DL
open PySem L2 PySem.Spec
/-! ### a, b, c, d = w, x, y, z with owned values, names read by comprehensions -/
def sPar4 (i j l q : Nat) (f : Lf) : Sf := fun e => (f e).bind fun p => match p.1 with
  | [x, y, z, w] => some (.nx, (((p.2.set i x).set j y).set l z).set q w)
  | _ => none
def four {α : Type} (l : List PyData) (k : PyData → PyData → PyData → PyData → Option α) : Option α := match l with
  | [x, y, z, w] => k x y z w
  | _ => none
@[simp] theorem four_ok {α : Type} {x y z w : PyData} {k : PyData → PyData → PyData → PyData → Option α} : four [x, y, z, w] k = k x y z w := rfl
@[simp] theorem rsPar4 {i j l q : Nat} {fr : Lf} {e : En} : sPar4 i j l q fr e = (fr e).bind fun p => four p.1 fun x y z w => some (.nx, (((p.2.set i x).set j y).set l z).set q w) := rfl
section
variable {K : PySem.W.Frag} {m m1 : List Ty} {M : Mk} {lf : Lf}
end
section
variable {ι : Type} {Xf : ι → Cx} {P : Program} {w : World} {K : PySem.W.Frag} {mg : Str → Option Value} {base : Heap} {n : Nat} [F : Fam Xf P w K mg base n]
variable {M : Mk} {m m1 m2 : List Ty} {pos : Pos} {a b c d : Expr} {lf : Lf} {t1 t2 t3 t4 : Ty}
end
end DL

namespace DL
open PySem L2 PySem.Spec
/-! ### a module's text; len of an owned dict; a, b, c = x, y, z with any owned values -/
def gDLen (d : PyData) : Option PyData := match d with
  | .dict kvs => some (.int kvs.length)
  | _ => none
def eDLen (j : Nat) : Ef := fun e => (gDLen (e.getD j .none)).map fun d => (d, e)
@[simp] theorem rDLen {j : Nat} {e : En} : eDLen j e = (gDLen (e.getD j .none)).bind fun d => some (d, e) := by unfold eDLen; cases gDLen (e.getD j .none) <;> rfl
section
variable {ι : Type} {Xf : ι → Cx} {P : Program} {w : World} {K : PySem.W.Frag} {mg : Str → Option Value} {base : Heap} {n : Nat} [F : Fam Xf P w K mg base n]
variable {m m1 : List Ty} {pos p p2 : Pos}
end
section
variable {K : PySem.W.Frag} {m m1 : List Ty} {M : Mk} {lf : Lf}
end
section
variable {ι : Type} {Xf : ι → Cx} {P : Program} {w : World} {K : PySem.W.Frag} {mg : Str → Option Value} {base : Heap} {n : Nat} [F : Fam Xf P w K mg base n]
variable {M : Mk} {m m1 m2 : List Ty} {pos p p2 apos cpos xp : Pos} {a b c : Expr} {f g h : Ef} {lf : Lf} {t1 t2 t3 : Ty}
end
end DL

/-! d.update({x: True for x in e}), e a list -/
namespace DL
open PySem L2 PySem.Spec
def gUpdL (d s : PyData) : Option PyData := match d, s with
  | .dict kvs, .list xs => (dictI kvs).bind fun ds => (intsOf xs).bind fun is => if kvs.length + is.length < 100000 then some (.dict ((joinI (yesI is (.bool true)) ds).map kvD)) else none
  | _, _ => none
def eUpdL (j : Nat) (f : Ef) : Ef := fun e => (f e).bind fun p => (gUpdL (p.2.getD j .none) p.1).bind fun d => some (.none, p.2.set j d)
@[simp] theorem rUpdL {j : Nat} {f : Ef} {e : En} : eUpdL j f e = (f e).bind fun p => (gUpdL (p.2.getD j .none) p.1).bind fun d => some (.none, p.2.set j d) := rfl
section
variable {K : PySem.W.Frag} {G H G1 H1 : Hp} {m m1 m2 mn : List Ty} {σ : St} {e : En} {A A1 : List Addr} {t : Ty} {ts : List Ty}
end
section
variable {ι : Type} {Xf : ι → Cx} {P : Program} {w : World} {K : PySem.W.Frag} {mg : Str → Option Value} {base : Heap} {n : Nat} [F : Fam Xf P w K mg base n]
variable {m m1 m2 m3 : List Ty} {pos p p2 apos cpos xp kp vp tp : Pos} {a b c e : Expr} {f g h : Ef} {scope : Scope} {jn : Option String}
end
end DL

/-! a list taken apart into three or four -/
namespace DL
open PySem L2 PySem.Spec
def un3L : PyData → Option (PyData × PyData × PyData)
  | .list [a, b, c] => some (a, b, c)
  | _ => none
def un4L : PyData → Option (PyData × PyData × PyData × PyData)
  | .list [a, b, c, d] => some (a, b, c, d)
  | _ => none
@[simp] theorem un3L_ok {x y z : PyData} : un3L (.list [x, y, z]) = some (x, y, z) := rfl
@[simp] theorem un4L_ok {x y z w : PyData} : un4L (.list [x, y, z, w]) = some (x, y, z, w) := rfl
@[simp] theorem rgTpL3 {gf gf2 gf3 : Gf} {d : PyData} {e : En} : gTpL 3 (gsCons gf (gsCons gf2 (gsCons gf3 gsNil))) d e = (un3L d).bind fun p => (gf p.1 e).bind fun e => (gf2 p.2.1 e).bind fun e => gf3 p.2.2 e := by
  unfold gTpL un3L
  cases d with
  | list ds =>
    match ds with
    | [] => rfl
    | [a] => rfl
    | [a, b] => rfl
    | [a, b, c] =>
      show ((gf a e).bind fun e' => (gf2 b e').bind fun e'' => (gf3 c e'').bind fun e''' => some e''') = _
      simp only [Option.bind_some]
      congr 1; funext e'; congr 1; funext e''; cases gf3 c e'' <;> rfl
    | a :: b :: c :: x :: r => show (if (a :: b :: c :: x :: r).length = 3 then _ else _) = _; rw [if_neg (by simp)]; rfl
  | _ => rfl
@[simp] theorem rgTpL4 {gf gf2 gf3 gf4 : Gf} {d : PyData} {e : En} : gTpL 4 (gsCons gf (gsCons gf2 (gsCons gf3 (gsCons gf4 gsNil)))) d e = (un4L d).bind fun p => (gf p.1 e).bind fun e => (gf2 p.2.1 e).bind fun e => (gf3 p.2.2.1 e).bind fun e => gf4 p.2.2.2 e := by
  unfold gTpL un4L
  cases d with
  | list ds =>
    match ds with
    | [] => rfl
    | [a] => rfl
    | [a, b] => rfl
    | [a, b, c] => rfl
    | [a, b, c, w] =>
      show ((gf a e).bind fun e' => (gf2 b e').bind fun e'' => (gf3 c e'').bind fun e3 => (gf4 w e3).bind fun e4 => some e4) = _
      simp only [Option.bind_some]
      congr 1; funext e'; congr 1; funext e''; congr 1; funext e3; cases gf4 w e3 <;> rfl
    | a :: b :: c :: w :: x :: r => show (if (a :: b :: c :: w :: x :: r).length = 4 then _ else _) = _; rw [if_neg (by simp)]; rfl
  | _ => rfl
end DL

/-! dicts of ints at a place (a field): looked up, asked, put into; a field that is stable and known by its value -/
namespace DL
open PySem L2 PySem.Spec
def eDGetP (g gi : Gq) : Ef := fun e => (g e).bind fun d => (gi e).bind fun i => (gDGet d i).bind fun x => some (x, e)
def eDInP (gg : PyData → PyData → Option PyData) (g gi : Gq) : Ef := fun e => (gi e).bind fun i => (g e).bind fun d => (gg d i).bind fun x => some (x, e)
def sDPutP (g : Gq) (pt : Pf) (gi : Gq) (f : Ef) : Sf := fun e => (f e).bind fun p => (g p.2).bind fun d => (gi p.2).bind fun i => (gDPut d i p.1).bind fun x => some (.nx, pt p.2 x)
@[simp] theorem rDGetP {g gi : Gq} {e : En} : eDGetP g gi e = (g e).bind fun d => (gi e).bind fun i => (gDGet d i).bind fun x => some (x, e) := rfl
@[simp] theorem rDInP {gg : PyData → PyData → Option PyData} {g gi : Gq} {e : En} : eDInP gg g gi e = (gi e).bind fun i => (g e).bind fun d => (gg d i).bind fun x => some (x, e) := rfl
@[simp] theorem rDPutP {g gi : Gq} {pt : Pf} {f : Ef} {e : En} : sDPutP g pt gi f e = (f e).bind fun p => (g p.2).bind fun d => (gi p.2).bind fun i => (gDPut d i p.1).bind fun x => some (.nx, pt p.2 x) := rfl
section
variable {K : PySem.W.Frag} {m m1 : List Ty} {g gi : Gq} {pt : Pf} {f : Ef}
end
section
variable {ι : Type} {Xf : ι → Cx} {P : Program} {w : World} {K : PySem.W.Frag} {mg : Str → Option Value} {base : Heap} {n : Nat} [F : Fam Xf P w K mg base n]
variable {m m1 m2 : List Ty} {pos p p2 pos' spos : Pos} {a b c : Expr} {g gi : Gq} {pt : Pf} {f : Ef} {M : Mk}
end
end DL

/-! a list known by its value: another name for it, in an object's field; the object's method called while the list stands still -/
namespace DL
open PySem L2 PySem.Spec
section
variable {ι : Type} {Xf : ι → Cx} {P : Program} {w : World} {K : PySem.W.Frag} {mg : Str → Option Value} {base : Heap} {n : Nat} [F : Fam Xf P w K mg base n]
variable {M : Mk} {m mn : List Ty} {pos : Pos} {x : Str} {t : Ty} {v : V} {sts : List Stmt} {f : Sf}
end
/-! ### thawed: an object that looks at the list -/
section
variable {K : PySem.W.Frag} {G G' H H' : Hp}
end
end DL

/-! own exceptions over LookupError, and own exceptions made without arguments -/
namespace DL
open PySem L2 PySem.Spec

abbrev leTail : List Value := [.type "LookupError", .type "Exception", .type "BaseException", .type "object"]
/-- what the written part says of such a class -/
structure OexL (K : PySem.W.Frag) (C : Addr) : Prop where
  cls : ∃ nm q N bs sn sub ab col dd k0 k1 k2 k3 k5, K.lookup C = some (excClassObj nm q C N bs leTail true sn sub ab col dd k0 k1 k2 k3 k5 "LookupError.__new__")
  sa : PySem.W.findIn K (.ref C) "__setattr__" = some (some (.builtin "object.__setattr__"))
  exC : PySem.W.subIn K (.ref C) (.type "BaseException") = some true
  tyC : PySem.W.typeIn K (.ref C) = some (.type "type")
  kC : PySem.W.keepIn K (.ref C) = true
theorem OexL.over {K : PySem.W.Frag} {C : Addr} (T : OexL K C) : PySem.W.excOver K C leTail = true ∧ ∃ cd, PySem.W.clsIn K C = some cd ∧ cd.hasDict = true := by
  obtain ⟨nm, q, N, bs, sn, sub, ab, col, dd, k0, k1, k2, k3, k5, hC⟩ := T.cls
  have hcl : PySem.W.clsIn K C = some { name := nm, bases := bs, mro := .ref C :: leTail, ns := N, qualname := q, hasDict := true, slotNames := sn, subclasses := sub, abstract := ab, collection := col, hasDel := false } := by unfold PySem.W.clsIn; rw [hC] <;> rfl
  refine ⟨?_, _, hcl, rfl⟩
  unfold PySem.W.excOver
  rw [hcl]
  show (C == C && PySem.W.excTail leTail leTail) = true
  rw [beq_self_eq_true, Bool.true_and]
  decide +kernel
section
variable {X : Cx} {pins : List (Addr × Obj)} {σ : St} {H : Hp} {s : Shared} {a C dx : Addr} {f : Str} {y : V} {u : Value} {fs : List (Str × V)} {R : Unit → Shared → Prop} {E : Value → Shared → Prop} {Ar : Around}
end
section
variable {X : Cx} {o e : Expr} {es : List Expr} {to te : TE} {ta : TA} {f : Str} {p p' pos : Pos}
end
/-- x(e, ..) makes an exception of the class named x, its fields told -/
structure ExcG (P : Program) (w : World) (K : PySem.W.Frag) (mg : Str → Option Value) (base : Heap) (k : Nat) (x : Str) (flds : List Str) : Prop where
  ex : ∃ C : Addr, mg x = some (.ref C) ∧ ∀ (X : Cx) (a : Expr) (es : List Expr) (ta : TA) (p pos : Pos), X.prog = P → X.w = w → X.K = K → X.mg = mg → X.base = base → Room (k + 1) X.A → Gl X x → PA X (a :: es) ta → (x == ("__debug__" : Str)) = false →
    starEach (a :: es) X.env = (false, eval a X.env) :: starEach es X.env → (backTo pos (starEach es X.env)).any (·.1) = false → PMk X (.Call (.Name x p) (a :: es) [] pos) (tMkO C (spIn C flds) [] ta)
theorem ExcT.gen {P : Program} {w : World} {K : PySem.W.Frag} {mg : Str → Option Value} {base : Heap} {k : Nat} {x : Str} {flds : List Str} (T : ExcT P w K mg base k x flds) : ExcG P w K mg base k x flds := by
  obtain ⟨C, fI, fd, ps, OX, gC, iC, tI, FI, bI⟩ := T.ex
  refine ⟨C, gC, fun X a es ta p pos e1 e2 e3 e4 e5 hr hg ha hdb he hpl => ?_⟩
  subst e1 e2 e3 e4 e5
  exact pmk_oex (ds := []) (dvs := []) OX iC tI FI hr bI .nil pass0 hg gC ha hdb he hpl
end DL

/-! try with any clauses: several, with a tuple of classes, with a name or without -/
namespace DL
open PySem L2 PySem.Spec

/-- the test of a clause: which classes it takes -/
def TestOk (X : Cx) (te : Expr) (cs : Value → Option Bool) : Prop :=
  ∀ (a : Addr) (oe : Obj) (pn : List (Addr × Obj)) (σ : St) (H : Hp) (s : Shared) (cls : Value) (b : Bool) (R : Bool → Shared → Prop) (E : Value → Shared → Prop), L2.Inv (X.suite a ((a, oe) :: pn)) [] σ H s →
    PySem.W.Looks (model X.prog X.w) s.heap (typeOf (.ref a)) cls → cs cls = some b → (∀ h', (∀ q o, s.heap.get? q = some o → h'.get? q = some o) → R b { s with heap := h' }) →
    wpAny (model X.prog X.w) (X.A.mark (some (.ref a))) (eval te X.env) (fun c s1 => wpAny (model X.prog X.w) (X.A.mark (some (.ref a))) (excMatches (.ref a) c) R E s1) E s
/-- a clause: what it takes, the slot of its name, what its suite does -/
structure Cl where
  cs : Value → Option Bool
  i : Option Nat
  ts : Addr → Value → Option Addr → TS
def Ends.drop (D : Ends) (i : Nat) : Ends := { nx := fun σ' H' => D.nx (σ'.set i none) H', rt := D.rt, bk := fun σ' H' => D.bk (σ'.set i none) H', ct := fun σ' H' => D.ct (σ'.set i none) H' }
inductive ClsOk (X : Cx) : List ExceptHandler → List Cl → Prop
  | nil : ClsOk X [] []
  | one {te : Expr} {cs : Value → Option Bool} {ts : Addr → Value → Option Addr → TS} {b0 : Stmt} {su : List Stmt} {p : Pos} {hs : List ExceptHandler} {l : List Cl} (t : TestOk X te cs)
      (w : ∀ (a : Addr) (oe : Obj) (cls : Value) (d : Option Addr) (pn : List (Addr × Obj)), Zc cls d oe → (∃ vs, oe.data = .fields vs) → PSs (X.suite a ((a, oe) :: pn)) (b0 :: su) (ts a cls d)) (r : ClsOk X hs l) :
      ClsOk X (.ExceptHandler (some te) none (b0 :: su) p :: hs) (⟨cs, none, ts⟩ :: l)
  | as {te : Expr} {cs : Value → Option Bool} {ts : Addr → Value → Option Addr → TS} {b0 : Stmt} {su : List Stmt} {p : Pos} {hs : List ExceptHandler} {l : List Cl} {i : Nat} {nm : Str} (t : TestOk X te cs) (nd : X.N.Nodup) (hi : X.N[i]? = some nm) (hl : X.env.kindOf nm = some .local)
      (w : ∀ (a : Addr) (oe : Obj) (cls : Value) (d : Option Addr) (pn : List (Addr × Obj)), Zc cls d oe → (∃ vs, oe.data = .fields vs) → PSs (X.suite a ((a, oe) :: pn)) (b0 :: su) (ts a cls d)) (r : ClsOk X hs l) :
      ClsOk X (.ExceptHandler (some te) (some nm) (b0 :: su) p :: hs) (⟨cs, some i, ts⟩ :: l)
section
variable {X : Cx} {body : List Stmt} {c0 : ExceptHandler} {hds : List ExceptHandler} {l : List Cl} {pos : Pos} {tb : WX → TS} {Wout : WX}
end
end DL

/-! try with any clauses, over data; a def that may raise and falls off its end -/
namespace DL
open PySem L2 PySem.Spec

/-- the errors of tb that a clause takes -/
def CatB (K : PySem.W.Frag) (mg : Str → Option Value) (tb : CT) (rt : List (Str × Bool)) (cs : Value → Option Bool) : Prop := ∀ c l, tb.lookup c = some l → ∃ C b, mg c = some (.ref C) ∧ rt.lookup c = some b ∧ cs (.ref C) = some b
def tsOf {ι : Type} (Xf : ι → Cx) (su : List Stmt) : Addr → Value → Option Addr → TS := fun a cls d D σ H => ∃ t : TS, (∀ b : SI Xf cls d, PSs (suF Xf a cls d b) su t) ∧ t D σ H
def sLost : Sf := fun _ => none
inductive ClD {ι : Type} (Xf : ι → Cx) (K : PySem.W.Frag) (mg : Str → Option Value) (M : Mk) (tb : CT) (mx : List Ty) (j : Nat) (mn : List Ty) : List ExceptHandler → List Cl → Sf → Prop
  | nil : ClD Xf K mg M tb mx j mn [] [] sLost
  | one {te : Expr} {cs : Value → Option Bool} {b0 : Stmt} {su : List Stmt} {p : Pos} {hs : List ExceptHandler} {l : List Cl} {f g : Sf} (rt : List (Str × Bool)) (t : ∀ i, TestOk (Xf i) te cs) (c : CatB K mg tb rt cs)
      (w : ∀ (a : Addr) (cls : Value) (d : Option Addr), PSsd (suF Xf a cls d) K M mx (b0 :: su) f mn) (r : ClD Xf K mg M tb mx j mn hs l g) :
      ClD Xf K mg M tb mx j mn (.ExceptHandler (some te) none (b0 :: su) p :: hs) (⟨cs, none, tsOf Xf (b0 :: su)⟩ :: l) (sIf (bT (e1 (gIsE rt) (eVar j))) f g)
  | as {te : Expr} {cs : Value → Option Bool} {b0 : Stmt} {su : List Stmt} {p : Pos} {hs : List ExceptHandler} {l : List Cl} {f g : Sf} {nm : Str} (rt : List (Str × Bool)) (t : ∀ i, TestOk (Xf i) te cs) (c : CatB K mg tb rt cs)
      (w : Suit Xf K mg M tb mx j (b0 :: su) f mn) (hN : ∀ i, (Xf i).N[j]? = some nm) (hl : ∀ i, (Xf i).env.kindOf nm = some .local) (r : ClD Xf K mg M tb mx j mn hs l g) :
      ClD Xf K mg M tb mx j mn (.ExceptHandler (some te) (some nm) (b0 :: su) p :: hs) (⟨cs, some j, tsOf Xf (b0 :: su)⟩ :: l) (sIf (bT (e1 (gIsE rt) (eVar j))) f g)
section
variable {ι : Type} {Xf : ι → Cx} {P : Program} {w : World} {K : PySem.W.Frag} {mg : Str → Option Value} {base : Heap} {n : Nat} [F : Fam Xf P w K mg base n]
variable {M : Mk} {m mn mx : List Ty} {pos : Pos} {body : List Stmt} {c0 : ExceptHandler} {hds : List ExceptHandler} {fb : Sf} {fs : Sf} {tb : CT} {j : Nat} {l : List Cl}
end
/-- a def that may raise and may fall off its end -/
def sOff (f : Sf) : Sf := sSeq f (sRet (e1 gOk (eC .none)))
section
variable {ι : Type} {Xf : ι → Cx} {W : WX} {P : Program} {w : World} {K : PySem.W.Frag} {mg : Str → Option Value} {base : Heap} {n : Nat} [F : Fam Xf P w K mg base n]
variable {M : Mk} {m m1 m2 mn mx : List Ty} {pos p p2 spos : Pos} {a : Expr} {es : List Expr} {fr : Lf} {tys : List Ty} {L : List (Option Nat)} {tb : CT}
end
end DL
namespace DL
open PySem L2 PySem.Spec
@[simp] theorem rLost {e : En} : sLost e = none := rfl
@[simp] theorem rOff {f : Sf} {e : En} : sOff f e = sSeq f (sRet (e1 gOk (eC .none))) e := rfl
section
variable {ι : Type} {Xf : ι → Cx} {P : Program} {w : World} {K : PySem.W.Frag} {mg : Str → Option Value} {base : Heap} {n : Nat} [F : Fam Xf P w K mg base n]
variable {x1 x2 x3 x4 : Str} {c1 c2 c3 c4 : Value} {p1 p2 p3 p4 tp : Pos} {k : Nat}
end
end DL

/-! own exceptions over LookupError with two fields; exceptions made without arguments -/
namespace DL
open PySem L2 PySem.Spec
/-- x() makes an exception of the class named x, which has no fields -/
structure ExcZ (P : Program) (w : World) (K : PySem.W.Frag) (mg : Str → Option Value) (x : Str) : Prop where
  ex : ∃ C : Addr, mg x = some (.ref C) ∧ ∀ (X : Cx) (p pos : Pos), X.prog = P → X.w = w → X.K = K → X.mg = mg → Gl X x → (x == ("__debug__" : Str)) = false → PMk X (.Call (.Name x p) [] [] pos) (fun _ H Q => Q (.ref C) none H)
section
variable {ι : Type} {Xf : ι → Cx} {W : WX} {P : Program} {w : World} {K : PySem.W.Frag} {mg : Str → Option Value} {base : Heap} {n : Nat} [F : Fam Xf P w K mg base n]
variable {M : Mk} {m mn mx : List Ty} {pos p spos : Pos} {tb : CT}
end
end DL

/-! x or y of values of any kind -/
namespace DL
open PySem L2 PySem.Spec
def eOrT (f g : Ef) : Ef := fun e => (f e).bind fun p => (gTruth p.1).bind fun b => if b = true then some p else g p.2
@[simp] theorem rOrT {f g : Ef} {e : En} : eOrT f g e = (f e).bind fun p => (gTruth p.1).bind fun b => if b = true then some (p.1, p.2) else g p.2 := rfl
section
variable {ι : Type} {Xf : ι → Cx} {P : Program} {w : World} {K : PySem.W.Frag} {mg : Str → Option Value} {base : Heap} {n : Nat} [F : Fam Xf P w K mg base n]
variable {m m1 : List Ty} {pos : Pos} {a b : Expr} {f g : Ef} {rest : List Expr}
end
end DL

/-! return len(f(..)), where f may raise -/
namespace DL
open PySem L2 PySem.Spec
def xUn (gg : PyData → Option PyData) (fx : EfX) : EfX := fun e => (fx e).bind fun p => match p.1 with
  | .ok d => (gg d).bind fun r => some (.ok r, p.2)
  | .ex c fs => some (.ex c fs, p.2)
def sRetE1 (tw : CT) (gg : PyData → Option PyData) (f : Ef) : Sf := fun e => (f e).bind fun p => (gIsOk tw p.1).bind fun w => (asB w).bind fun b => if b = true then (gUn p.1).bind fun d => (gg d).bind fun r => (gOk r).bind fun z => some (.rt z, p.2) else some (.rt p.1, p.2)
@[simp] theorem rRetE1 {tw : CT} {gg : PyData → Option PyData} {f : Ef} {e : En} : sRetE1 tw gg f e = (f e).bind fun p => (gIsOk tw p.1).bind fun w => (asB w).bind fun b => if b = true then (gUn p.1).bind fun d => (gg d).bind fun r => (gOk r).bind fun z => some (.rt z, p.2) else some (.rt p.1, p.2) := rfl
section
variable {K : PySem.W.Frag} {mg : Str → Option Value} {m m1 : List Ty} {W : WX} {fx : EfX} {ty : Ty} {gg : PyData → Option PyData}
theorem DEX.un {r : V → Hp → VK → Prop} {ta : TE} (ha : DEX K mg m ta .s fx m1 W) (hr : D1 K r ty gg) : DEX K mg m (fun σ H Q => ta σ H fun x H1 => r x H1 Q) ty (xUn gg fx) m1 W := by
  intro G H σ e A res e' Q st hf k
  obtain ⟨⟨r1, e1⟩, hf1, hf⟩ := Option.bind_eq_some_iff.mp hf
  refine ha st hf1 ?_
  cases r1 with
  | ok d =>
    obtain ⟨d3, hf3, hf⟩ := Option.bind_eq_some_iff.mp (show (gg d).bind _ = _ from hf)
    cases hf
    intro G1 H1 v1 A1 B1 s1 st1 o1 nd1
    cases o1 with
    | s q1 => exact hr st1 q1 hf3 fun G3 H3 v3 A3 B3 s3 st3 o3 nd3 => k G3 H3 v3 A3 B3 (s1.seq0 s3) st3 o3 nd3
  | ex c fs => cases hf; exact k
end
section
variable {ι : Type} {Xf : ι → Cx} {W : WX} {P : Program} {w : World} {K : PySem.W.Frag} {mg : Str → Option Value} {base : Heap} {n : Nat} [F : Fam Xf P w K mg base n]
variable {M : Mk} {m m1 mn mx : List Ty} {pos p p2 p3 cp : Pos} {a : Expr} {es : List Expr} {fr : Lf} {tys : List Ty} {L : List (Option Nat)} {tb tw tG : CT} {fx : EfX} {Fn : DFn} {gg : PyData → Option PyData} {ty : Ty}
end
end DL

/-! dict([(k, v), ..]); d.update(a dict just made) -/
namespace DL
open PySem L2 PySem.Spec
/-- d.update(e) -/
def gUpdE (d s : PyData) : Option PyData := match d, s with
  | .dict kvs, .dict more => (dictI kvs).bind fun ds => (dictI more).bind fun es => if kvs.length + es.length < 100000 then some (.dict ((joinI es ds).map kvD)) else none
  | _, _ => none
/-- list(d) -/
def gDKeys (d : PyData) : Option PyData := match d with
  | .dict kvs => some (.list (kvs.map (·.1)))
  | _ => none
def eDKeys (j : Nat) : Ef := fun e => (gDKeys (e.getD j .none)).bind fun d => some (d, e)
@[simp] theorem rDKeys {j : Nat} {e : En} : eDKeys j e = (gDKeys (e.getD j .none)).bind fun d => some (d, e) := rfl
def eUpdE (j : Nat) (f : Ef) : Ef := fun e => (f e).bind fun p => (gUpdE (p.2.getD j .none) p.1).bind fun d => some (.none, p.2.set j d)
@[simp] theorem rUpdE {j : Nat} {f : Ef} {e : En} : eUpdE j f e = (f e).bind fun p => (gUpdE (p.2.getD j .none) p.1).bind fun d => some (.none, p.2.set j d) := rfl
section
variable {K : PySem.W.Frag} {G H G1 H1 : Hp} {m m1 m2 mn : List Ty} {σ : St} {e : En} {A A1 : List Addr} {t : Ty} {ts : List Ty}
end
section
variable {ι : Type} {Xf : ι → Cx} {P : Program} {w : World} {K : PySem.W.Frag} {mg : Str → Option Value} {base : Heap} {n : Nat} [F : Fam Xf P w K mg base n]
variable {m m1 m2 m3 : List Ty} {pos p p2 apos cpos xp : Pos} {a b c e : Expr} {f g h : Ef}
end
end DL

namespace DL
open PySem L2 PySem.Spec

/-! ### zip of a list and a tuple -/
section
variable {K : PySem.W.Frag} {G H : Hp} {m : List Ty} {σ : St} {e : En} {A : List Addr}
end
def zipNS : PyData → PyData → Option (List PyData)
  | .list xs, .tuple ys => some (zipD xs ys)
  | _, _ => none
def iZpN (f g : Ef) : Lf := fun e => (f e).bind fun p => (g p.2).bind fun q => (zipNS p.1 q.1).bind fun ds => some (ds, q.2)
section
variable {ι : Type} {Xf : ι → Cx} {P : Program} {w : World} {K : PySem.W.Frag} {mg : Str → Option Value} {base : Heap} {n : Nat} [F : Fam Xf P w K mg base n]
variable {m m1 m2 m3 : List Ty} {pos p p2 tpos : Pos} {a b c tg : Expr} {elts : List Expr} {kk : Nat} {f g h : Ef}
include F
end
@[simp] theorem riZpN {f g : Ef} {e : En} : iZpN f g e = (f e).bind fun p => (g p.2).bind fun q => (zipNS p.1 q.1).bind fun ds => some (ds, q.2) := rfl
@[simp] theorem xZipN {xs ys : List PyData} : zipNS (.list xs) (.tuple ys) = some (zipD xs ys) := rfl
end DL

/-! a dict just made != a dict, both with whole numbers as keys and values -/
namespace DL
open PySem L2 PySem.Spec
section
open PySem.Calls PyProof.Rows PyProof.V
end
/-! the data's side -/
def intVal : PyData → Option Int
  | .int i => some i
  | _ => none
def sameI : List (Int × PyData) → List (Int × PyData) → Option Bool
  | [], _ => some true
  | p :: r, es => (intVal p.2).bind fun i => match valI es p.1 with
    | none => some false
    | some d => (intVal d).bind fun j => (sameI r es).map fun b => (i == j) && b
def gDNe (a b : PyData) : Option PyData := match a, b with
  | .dict ka, .dict kb => (dictI ka).bind fun ds => (dictI kb).bind fun es => if ds.length = es.length then (sameI ds es).map fun r => .bool (!r) else some (.bool true)
  | _, _ => none
def eDNe (j : Nat) (f : Ef) : Ef := fun e => (f e).bind fun p => (gDNe p.1 (p.2.getD j .none)).bind fun d => some (d, p.2)
@[simp] theorem stb_dict : stb Ty.d = false := rfl
@[simp] theorem rDNe {j : Nat} {f : Ef} {e : En} : eDNe j f e = (f e).bind fun p => (gDNe p.1 (p.2.getD j .none)).bind fun d => some (d, p.2) := rfl
section
variable {K : PySem.W.Frag} {G H G1 H1 : Hp} {m m1 m2 mn : List Ty} {σ : St} {e : En} {A A1 : List Addr} {t : Ty} {ts : List Ty}
end
section
variable {ι : Type} {Xf : ι → Cx} {P : Program} {w : World} {K : PySem.W.Frag} {mg : Str → Option Value} {base : Heap} {n : Nat} [F : Fam Xf P w K mg base n]
variable {m m1 m2 m3 : List Ty} {pos p p2 apos cpos xp : Pos} {a b c e : Expr} {f g h : Ef}
end
end DL

/-! len(x) and str(x) of an instance with its own __len__, __str__ -/
namespace DL
open PySem L2 PySem.Spec
section
open PyProof.Rows PySem.Calls
variable {prog : Program} {w : World} {A : Around} {E : Value → Shared → Prop} {s : Shared} {K : PySem.W.Frag} {x C f : Addr} {ox : Obj} {odd : Option Obj}
end
/-! the data's side -/
section
variable {ι : Type} {Xf : ι → Cx} {P : Program} {w : World} {K : PySem.W.Frag} {mg : Str → Option Value} {base : Heap} {n : Nat} [F : Fam Xf P w K mg base n] [FG : FamG Xf]
variable {m m1 : List Ty} {pos p xp : Pos} {fr : Lf} {tys : List Ty} {L : List (Option Nat)} {C : Addr} {ns : List Str} {ts : List Ty}
end
end DL

/-! f'..' of texts and whole numbers -/
namespace DL
open PySem L2 PySem.Spec
def joinS : Str → List PyData → Option Str
  | acc, [] => some acc
  | acc, .str y :: r => if (acc ++ y).length ≤ sizeLine then joinS (acc ++ y) r else none
  | _, _ :: _ => none
def gJs (ds : List PyData) : Option PyData := (joinS Str.empty ds).bind fun x => if x.length ≤ sizeLine then some (.str x) else none
def eJs (lf : Lf) : Ef := fun e => (lf e).bind fun p => (gJs p.1).bind fun d => some (d, p.2)
@[simp] theorem rJs {lf : Lf} {e : En} : eJs lf e = (lf e).bind fun p => (gJs p.1).bind fun d => some (d, p.2) := rfl
section
variable {ι : Type} {Xf : ι → Cx} {P : Program} {w : World} {K : PySem.W.Frag} {mg : Str → Option Value} {base : Heap} {n : Nat} [F : Fam Xf P w K mg base n]
variable {m m1 m2 : List Ty} {pos p : Pos} {a v1 v2 : Expr} {es rest : List Expr} {f : Ef} {lf : Lf}
structure PJD (Xf : ι → Cx) (K : PySem.W.Frag) (m : List Ty) (es : List Expr) (lf : Lf) (m1 : List Ty) : Prop where
  ex : ∃ ts : List TE, (∀ i, PJ (Xf i) es ts) ∧ ∀ {G H : Hp} {σ : St} {e e' : En} {A : List Addr} {ds : List PyData} {acc out : Str} {Q : Str → Hp → Prop}, Stt K m G H σ e A → lf e = some (ds, e') → joinS acc ds = some out →
    (∀ G' H' A', Step A G H A' G' H' → Stt K m1 G' H' σ e' A' → Q out H') → tJs ts acc σ H Q
end
end DL

/-! sorted(d.items()) of a dict just made, keys and values whole numbers -/
namespace DL
open PySem L2 PySem.Spec
section
open PyProof.Rows
variable {X : Cx} {e : Expr} {te : TE} {p apos cpos pos : Pos}
end
/-! the data's side -/
section
variable {K : PySem.W.Frag} {G H G1 H1 : Hp} {m m1 m2 mn : List Ty} {σ : St} {e : En} {A A1 : List Addr}
end
section
variable {ι : Type} {Xf : ι → Cx} {P : Program} {w : World} {K : PySem.W.Frag} {mg : Str → Option Value} {base : Heap} {n : Nat} [F : Fam Xf P w K mg base n]
variable {m m1 : List Ty} {pos p apos cpos : Pos} {a : Expr} {f : Ef}
end
end DL

/-! methods that may raise, the object lent -/
namespace DL
open PySem L2 PySem.Spec

def spY (K : PySem.W.Frag) (mg : Str → Option Value) (ptys : List Ty) (rty : Ty) (tb : CT) (Fn : DFn) : Sp := fun vs H Q E =>
  ∃ (ds : List PyData) (d : PyData) (fs : List PyData) (r : Res) (G : Hp) (A : List Addr), Fn ds = some (d, fs) ∧ decR tb d = some r ∧ OwnA K G H ptys ds (vs.map some) A ∧ A.Nodup ∧ Same G H ∧ match r with
    | .ok d1 => ∀ (G' H' : Hp) (v : V) (Av A' : List Addr), Step A G H (Av ++ A') G' H' → OwnA K G' H' ptys fs (vs.map some) A' → Own K G' H' rty d1 (some v) Av → (Av ++ A').Nodup → Same G' H' → Q v H'
    | .ex c fl => ∀ (G' H' : Hp) (A' : List Addr) (cls : Value) (dx : Option Addr), Step A G H A' G' H' → OwnA K G' H' ptys fs (vs.map some) A' → A'.Nodup → ExAt K mg G' c fl cls dx → Same G' H' → E cls dx H'
structure CalMX (P : Program) (w : World) (K : PySem.W.Frag) (mg : Str → Option Value) (base : Heap) (k : Nat) (C : Addr) (x : Str) (ptys : List Ty) (rty : Ty) (tb : CT) (Fn : DFn) : Prop where
  ex : ∃ (f : Addr) (fd : FuncData) (ps : List Str), FnX P w K mg base k f fd ps (spY K mg ptys rty tb Fn) ∧ Meth K C x f ∧ Binds K fd ps []
section
variable {K : PySem.W.Frag} {mg : Str → Option Value} {m m1 m2 : List Ty} {fr : Lf} {tys : List Ty} {L : List (Option Nat)} {W : WX} {tb : CT}
end
section
variable {ι : Type} {Xf : ι → Cx} {P : Program} {w : World} {K : PySem.W.Frag} {mg : Str → Option Value} {base : Heap} {n : Nat} [F : Fam Xf P w K mg base n] [FG : FamG Xf] {W : WX}
variable {m m1 : List Ty} {pos apos xp : Pos} {a : Expr} {es : List Expr} {fr : Lf} {tys : List Ty} {L : List (Option Nat)} {C : Addr} {ns : List Str} {ts : List Ty} {tb : CT}
end

/-! ### statements with a call that may raise, however it is made -/
/-- y = g(call): the result goes through gg -/
def sAsgE1 (tw : CT) (j : Nat) (gg : PyData → Option PyData) (f : Ef) : Sf := fun e => (f e).bind fun p => (gIsOk tw p.1).bind fun w => (asB w).bind fun b => if b = true then (gUn p.1).bind fun d => (gg d).bind fun r => some (.nx, p.2.set j r) else some (.rt p.1, p.2)
section
variable {tw tG tb : CT} {j : Nat} {call : Ef} {fx : EfX}
end
section
variable {ι : Type} {Xf : ι → Cx} {W : WX} {P : Program} {w : World} {K : PySem.W.Frag} {mg : Str → Option Value} {base : Heap} {n : Nat} [F : Fam Xf P w K mg base n]
variable {M : Mk} {m m1 m2 mn mx ml : List Ty} {pos p p2 p3 cp spos np np2 pos' zp lp : Pos} {v : Expr} {fx : EfX} {call : Ef} {tb tw tG : CT} {rty ty : Ty} {z : Str} {jz : Nat}
end

/-! ### THE RULE for a def that may raise, with owned parameters -/
end DL

/-! reading values (nothing owned changes); x.f.append(a value that reads x); methods with a keyword-only default; defs that may raise, with a lent parameter -/
namespace DL
open PySem L2 PySem.Spec

section
variable {K : PySem.W.Frag} {m : List Ty} {G H G' H' : Hp} {σ : St} {e : En} {A : List Addr}
theorem rd_stt (st : Stt K m G H σ e A) (s : Step [] G H [] G' H') (sub : Same G' H') : Step A G H A G' H' ∧ Stt K m G' H' σ e A := by
  have s0 : Step A G H (A ++ []) G H := by rw [List.append_nil]; exact Step.refl
  obtain ⟨s1, nd1, hg, hh⟩ := s0.seq (ownA_at st.own) (by rw [List.append_nil]; exact st.nd) s List.nodup_nil
  rw [List.append_nil] at s1
  exact ⟨s1, ownA_fr st.own s.sg hg hh, st.nd, sub⟩
end
def DRV (K : PySem.W.Frag) (m : List Ty) (te : TE) (f : Ef) : Prop := ∀ {G H : Hp} {σ : St} {e : En} {A : List Addr} {d : PyData} {e' : En} {Q : VK}, Stt K m G H σ e A → f e = some (d, e') →
  (e' = e → ∀ (G' H' : Hp) (v : V), Step [] G H [] G' H' → Same G' H' → Dq K G' v d → Q v H') → te σ H Q
def DRL (K : PySem.W.Frag) (m : List Ty) (k : Nat) (ta : TA) (f : Lf) : Prop := ∀ {G H : Hp} {σ : St} {e : En} {A : List Addr} {ds : List PyData} {e' : En} {Q : List V → Hp → Prop}, Stt K m G H σ e A → f e = some (ds, e') →
  (e' = e → ds.length = k → ∀ (G' H' : Hp) (vs : List V), Step [] G H [] G' H' → Same G' H' → DqA K G' vs ds → Q vs H') → ta σ H Q
def DRX (K : PySem.W.Frag) (mg : Str → Option Value) (m : List Ty) (te : TE) (f : EfX) (W : WX) : Prop := ∀ {G H : Hp} {σ : St} {e : En} {A : List Addr} {r : Res} {e' : En} {Q : VK}, Stt K m G H σ e A → f e = some (r, e') →
  (match r with
  | .ok d => e' = e → ∀ (G' H' : Hp) (v : V), Step [] G H [] G' H' → Same G' H' → Dq K G' v d → Q v H'
  | .ex c fs => e' = e → ∀ (G' H' : Hp) (cls : Value) (dx : Option Addr), Step [] G H [] G' H' → Same G' H' → ExAt K mg G' c fs cls dx → W cls dx σ H') → te σ H Q
structure PRV {ι : Type} (Xf : ι → Cx) (K : PySem.W.Frag) (m : List Ty) (a : Expr) (f : Ef) : Prop where
  ex : ∃ te : TE, (∀ i, PE (Xf i) a te) ∧ DRV K m te f
structure PRL {ι : Type} (Xf : ι → Cx) (K : PySem.W.Frag) (m : List Ty) (k : Nat) (es : List Expr) (f : Lf) : Prop where
  ex : ∃ ta : TA, (∀ i, PA (Xf i) es ta) ∧ DRL K m k ta f
structure PRX {ι : Type} (Xf : ι → Cx) (W : WX) (K : PySem.W.Frag) (mg : Str → Option Value) (m : List Ty) (a : Expr) (f : EfX) : Prop where
  ex : ∃ te : TE, (∀ i, PE (Xf i) a te) ∧ DRX K mg m te f W
section
variable {K : PySem.W.Frag} {mg : Str → Option Value} {m : List Ty} {f g : Ef} {fr : Lf} {k : Nat} {W : WX}
theorem DRL.nil : DRL K m 0 tNil lNil := by
  intro G H σ e A ds e' Q st hf kk
  cases hf
  exact kk rfl rfl G H [] Step.refl st.sub DqA.nil
theorem DRL.cons {te : TE} {ta : TA} (h1 : DRV K m te f) (h2 : DRL K m k ta fr) : DRL K m (k + 1) (tCons te ta) (lCons f fr) := by
  intro G H σ e A ds e' Q st hf kk
  obtain ⟨⟨d1, e1⟩, hf1, hf⟩ := Option.bind_eq_some_iff.mp hf
  obtain ⟨⟨ds1, e2⟩, hf2, hf⟩ := Option.bind_eq_some_iff.mp hf
  cases hf
  refine h1 st hf1 fun z1 G1 H1 v s1 sub1 q1 => ?_
  subst z1
  obtain ⟨s1', st1⟩ := rd_stt st s1 sub1
  refine h2 st1 hf2 fun z2 l2 G2 H2 vs s2 sub2 q2 => ?_
  refine kk z2 (by rw [List.length_cons, l2]) G2 H2 (v :: vs) (s1.seq0 s2) sub2 (DqA.cons (q1.mono s2.sg) q2)
theorem DRV.call {ta : TA} {Fn : DFn} {tys : List Ty} (h : DRL K m k ta fr) (ht : tys = List.replicate k .s) : DRV K m (tCallG (spD K tys .s Fn) ta) (eCall Fn fr) := by
  intro G H σ e A d e' Q st hf kk
  obtain ⟨⟨ds, e1⟩, hf1, hf⟩ := Option.bind_eq_some_iff.mp hf
  obtain ⟨⟨d1, fs⟩, hf2, hf⟩ := Option.bind_eq_some_iff.mp hf
  cases hf
  refine h st hf1 fun z1 l1 G1 H1 vs s1 sub1 q1 => ?_
  subst ht l1
  refine ⟨ds, _, fs, G1, [], hf2, ownA_of q1, List.nodup_nil, sub1, fun G2 H2 v Av A' s2 o2 ov nd2 sub2 => ?_⟩
  have z : A' = [] := stab_nil o2 fun t ht => by rw [(List.mem_replicate.mp ht).2]; rfl
  subst z
  cases ov with
  | s q => exact kk z1 G2 H2 v (s1.seq0 s2) sub2 q
theorem DRX.call {ta : TA} {Fn : DFnX} {tys : List Ty} (h : DRL K m k ta fr) (ht : tys = List.replicate k .s) : DRX K mg m (tCallS (spX K mg tys .s Fn) (WE W) ta) (xCall Fn fr) W := by
  intro G H σ e A r e' Q st hf kk
  obtain ⟨⟨ds, e1⟩, hf1, hf⟩ := Option.bind_eq_some_iff.mp hf
  obtain ⟨r1, hf2, hf⟩ := Option.bind_eq_some_iff.mp hf
  cases hf
  refine h st hf1 fun z1 l1 G1 H1 vs s1 sub1 q1 => ?_
  subst ht l1
  refine ⟨ds, _, G1, hf2, ownA_of q1, sub1, ?_⟩
  cases r with
  | ok d =>
    intro G2 H2 v Av s2 ov nd2 sub2
    cases ov with
    | s q => exact kk z1 G2 H2 v (s1.seq0 s2) sub2 q
  | ex c fs =>
    intro G2 H2 cls dx s2 ex sub2
    exact kk z1 G2 H2 cls dx (s1.seq0 s2) sub2 ex
section
variable {ts : List Ty} {ns : List Str} {C : Addr} {fl : Str} {j : Nat}
end
end
section
variable {ι : Type} {Xf : ι → Cx} {P : Program} {w : World} {K : PySem.W.Frag} {mg : Str → Option Value} {base : Heap} {n : Nat} [F : Fam Xf P w K mg base n]
variable {m m1 : List Ty} {pos p xp fpos apos cpos : Pos} {a b v : Expr} {es : List Expr} {f : Ef} {fr : Lf} {k : Nat} {g gi : Gq} {pt : Pf} {tys : List Ty} {W : WX} {fx : EfX}
variable {ts : List Ty} {ns : List Str} {C : Addr} {fl : Str}
end
/-- x.f.append(call), the call may raise -/
def sAppE (tw : CT) (j k : Nat) (call : Ef) : Sf := fun e => (call e).bind fun p => (gIsOk tw p.1).bind fun w => (asB w).bind fun b => if b = true then (gUn p.1).bind fun d => (gAppF k (e.getD j .none) d).bind fun d2 => some (.nx, p.2.set j d2) else some (.rt p.1, p.2)
section
variable {ι : Type} {Xf : ι → Cx} {W : WX} {P : Program} {w : World} {K : PySem.W.Frag} {mg : Str → Option Value} {base : Heap} {n : Nat} [F : Fam Xf P w K mg base n]
variable {M : Mk} {m m1 mx : List Ty} {p2 : Pos} {v : Expr} {fx : EfX} {call : Ef} {tb tw tG : CT} {j k : Nat}
end

/-! ### methods whose last parameter is keyword-only, None where it lacks -/
structure CalMK (P : Program) (w : World) (K : PySem.W.Frag) (mg : Str → Option Value) (base : Heap) (k : Nat) (C : Addr) (x : Str) (ty0 : Ty) (rty : Ty) (Fn : DFn) : Prop where
  ex : ∃ (f : Addr) (fd : FuncData) (ps : List Str) (ds : List Value), FnG P w K mg base k f fd ps (spD K [ty0, .s] rty Fn) ∧ Meth K C x f ∧ Vals [V.non] ds ∧ Binds K fd ps ds
section
variable {ι : Type} {Xf : ι → Cx} {P : Program} {w : World} {K : PySem.W.Frag} {mg : Str → Option Value} {base : Heap} {n : Nat} [F : Fam Xf P w K mg base n] [FG : FamG Xf]
variable {m : List Ty} {pos apos xp : Pos} {C : Addr} {ns : List Str} {ts : List Ty} {ty0 : Ty}
end
/-! ### defs that may raise, with a lent parameter -/
structure CalYF (P : Program) (w : World) (K : PySem.W.Frag) (mg : Str → Option Value) (base : Heap) (k : Nat) (x : Str) (ptys : List Ty) (rty : Ty) (tb : CT) (Fn : DFn) : Prop where
  ex : ∃ (f : Addr) (fd : FuncData) (ps : List Str), FnX P w K mg base k f fd ps (spY K mg ptys rty tb Fn) ∧ mg x = some (.ref f) ∧ PySem.W.keepIn K (.ref f) = true ∧ Binds K fd ps []
section
variable {ι : Type} {Xf : ι → Cx} {W : WX} {P : Program} {w : World} {K : PySem.W.Frag} {mg : Str → Option Value} {base : Heap} {n : Nat} [F : Fam Xf P w K mg base n] [FG : FamG Xf]
variable {m m1 : List Ty} {pos p : Pos} {a : Expr} {es : List Expr} {fr : Lf} {tys : List Ty} {L : List (Option Nat)} {tb : CT}
end
end DL

/-! defs called while an exception is handled (no loops, no comprehensions in them) -/
namespace DL
open PySem L2 PySem.Spec

/-- the handled exception stands in the state, out of the reach of what is tracked -/
structure PinX (outer : List Env) (H : Hp) (s : Shared) (a : Addr) (oe : Obj) : Prop where
  get : s.heap.get? a = some oe
  free : H a = none
  nofs : a ∉ frs outer
  nocell : ∀ v, oe.data ≠ .cell v
structure FnW (P : Program) (w : World) (K : PySem.W.Frag) (mg : Str → Option Value) (base : Heap) (k : Nat) (f : Addr) (fd : FuncData) (ps : List Str) (a : Addr) (cls : Value) (d : Option Addr) (sp : Sp) : Prop where
  len : ∀ vs H Q E, sp vs H Q E → vs.length = ps.length
  run : ∀ (A : Around) (outer : List Env) (s : Shared) (H : Hp) (args : Args) (us : List Value) (vs : List V) (Q : VK) (E : XK) (oe : Obj), RoomU k A → A.guards = some [] → A.handled = some (.ref a) → PinX outer H s a oe → Zc cls d oe → (∃ xs, oe.data = .fields xs) → Env0 P w K mg base A outer s H → BindsTo s fd args (ps.zip us) → Vals vs us → sp vs H Q E →
    codeAny (model P w) A (.call (.ref f) args) (CR CX0 outer P w H s Q E) s
structure CalW (P : Program) (w : World) (K : PySem.W.Frag) (mg : Str → Option Value) (base : Heap) (k : Nat) (x : Str) (ptys : List Ty) (rty : Ty) (Fn : DFn) (a : Addr) (cls : Value) (d : Option Addr) : Prop where
  ex : ∃ (f : Addr) (fd : FuncData) (ps : List Str), FnW P w K mg base k f fd ps a cls d (spD K ptys rty Fn) ∧ mg x = some (.ref f) ∧ PySem.W.keepIn K (.ref f) = true ∧ Binds K fd ps []
section
variable {ι : Type} {Xf : ι → Cx} {P : Program} {w : World} {K : PySem.W.Frag} {mg : Str → Option Value} {base : Heap} {n : Nat} [F : Fam Xf P w K mg base n] [FD : FamD Xf] {a0 : Addr} {cls : Value} {d0 : Option Addr}
variable {m m1 : List Ty} {pos p : Pos} {a : Expr} {es : List Expr} {fr : Lf} {tys : List Ty} {L : List (Option Nat)}
end
end DL

/-! list(x.f): a copy of an owned list -/
namespace DL
open PySem L2 PySem.Spec
def eLstP (g : Gq) : Ef := fun e => (g e).bind fun d => (gList d).bind fun r => some (r, e)
section
variable {K : PySem.W.Frag} {m : List Ty} {g : Gq} {pt : Pf}
end
section
variable {ι : Type} {Xf : ι → Cx} {P : Program} {w : World} {K : PySem.W.Frag} {mg : Str → Option Value} {base : Heap} {n : Nat} [F : Fam Xf P w K mg base n]
variable {m : List Ty} {pos p : Pos} {a : Expr} {g : Gq} {pt : Pf}
end
end DL

/-! ### texts: split, join, int(text), a sign in a text, or by truth, for over a text -/
namespace DL
open PySem L2 PySem.Spec PyProof.Rows
def strsOf : List PyData → Option (List Str)
  | [] => some []
  | .str z :: r => (strsOf r).map (z :: ·)
  | _ :: _ => none
theorem strsOf_eq : ∀ {ds : List PyData} {zs : List Str}, strsOf ds = some zs → ds = zs.map .str
  | [], zs, h => by cases h; rfl
  | d :: r, zs, h => by
    cases d with
    | str z =>
      rw [strsOf] at h
      obtain ⟨ys, h1, rfl⟩ := Option.map_eq_some_iff.mp h
      rw [strsOf_eq h1]; rfl
    | _ => cases h
def gChr : PyData → Option (List PyData)
  | .str z => some (z.cps.toList.map fun c => .str ⟨#[c]⟩)
  | _ => none
def iChr (f : Ef) : Lf := fun e => (f e).bind fun p => (gChr p.1).bind fun ds => some (ds, p.2)
@[simp] theorem riChr {f : Ef} {e : En} : iChr f e = (f e).bind fun p => (gChr p.1).bind fun ds => some (ds, p.2) := rfl
section
variable {ι : Type} {Xf : ι → Cx} {P : Program} {w : World} {K : PySem.W.Frag} {mg : Str → Option Value} {base : Heap} {n : Nat} [F : Fam Xf P w K mg base n]
variable {m m1 m2 : List Ty} {pos p apos : Pos} {a b tg : Expr} {rest : List Expr} {f g : Ef}
end
end DL

/-! ### == where a dict may stand on one side: a value and a tuple of one text; lists of texts and a list of one value -/
namespace DLQ
open PySem PyProof PySem.SeqAt PySem.MeetsSeq PySem.MeetsSeq2 PySem.MeetsSeq3
theorem dict_declines_str (l : Addr) (o : Obj) (b : Str) (u : Tok) (hc : o.cls = .type "dict") :
    Meets (Builtin.«dict.__eq__» ⟨[.ref l, .str b u], []⟩) (fun _ R s => s.heap.get? l = some o ∧ R (.ok (.ret .notImplemented)) s) :=
  .of_wp fun prog w A R s h => by
    obtain ⟨hp, g, d, tk, os⟩ := s
    obtain ⟨hl, h⟩ := h
    have f1 := F.sub_str_dict
    wp_walk using wpAny_loadPart' hl
    exact ⟨_, rfl, h⟩
theorem dict_declines_tup (l b : Addr) (o o2 : Obj) (hc : o.cls = .type "dict") (hc2 : o2.cls = .type "tuple") :
    Meets (Builtin.«dict.__eq__» ⟨[.ref l, .ref b], []⟩) (fun _ R s => s.heap.get? l = some o ∧ s.heap.get? b = some o2 ∧ R (.ok (.ret .notImplemented)) s) :=
  .of_wp fun prog w A R s h => by
    obtain ⟨hp, g, d, tk, os⟩ := s
    obtain ⟨hl, hb, h⟩ := h
    obtain ⟨c2, dd2, data2, sl2⟩ := o2
    simp only at hc2
    subst hc2
    have f1 := F.sub_tuple_dict
    wp_walk using wpAny_loadPart' hl, wpAny_loadPart' hb
    exact ⟨_, rfl, h⟩
theorem tup_declines_dict (l b : Addr) (items : Array Value) (n : Nat) (dd : Option Addr) (sl : Array (Option Value)) (o2 : Obj) (hc2 : o2.cls = .type "dict") :
    Meets (Builtin.«tuple.__eq__» ⟨[.ref l, .ref b], []⟩) (fun _ R s => s.heap.get? l = some { cls := .type "tuple", dict := dd, data := .seq items n, slots := sl } ∧ s.heap.get? b = some o2 ∧ R (.ok (.ret .notImplemented)) s) :=
  .of_wp fun prog w A R s h => by
    obtain ⟨hp, g, d, tk, os⟩ := s
    obtain ⟨hl, hb, h⟩ := h
    obtain ⟨c2, dd2, data2, sl2⟩ := o2
    simp only at hc2
    subst hc2
    have f1 := F.sub_dict_tuple
    wp_walk using wpAny_loadPart' hl, wpAny_loadPart' hb
    exact ⟨_, rfl, h⟩
theorem str_declines_dict (b : Str) (u : Tok) (l : Addr) (o : Obj) (es : Array DictEntry) (ep : Nat) (hc : o.cls = .type "dict") (hd : o.data = .dict es ep) :
    Meets (Builtin.«str.__eq__» ⟨[.str b u, .ref l], []⟩) (fun _ R s => s.heap.get? l = some o ∧ R (.ok (.ret .notImplemented)) s) :=
  .of_wp fun prog w A R s h => by
    obtain ⟨hp, g, d, tk, os⟩ := s
    obtain ⟨hl, h⟩ := h
    obtain ⟨c2, dd2, data2, sl2⟩ := o
    simp only at hc hd
    subst hc hd
    wp_walk using wpAny_loadPart' hl, wpAny_load hl
    exact ⟨_, rfl, h⟩
section
variable {A : Around} {s : Shared}
theorem rc_dict_str {l : Addr} {o : Obj} {es : Array DictEntry} {ep : Nat} (b : Str) (u : Tok) (ho : s.heap.get? l = some o) (hc : o.cls = .type "dict") (hd : o.data = .dict es ep) (hu : A.units < cLine) : RcAt A s (.ref l) (.str b u) false := fun prog w E Q h => by
  exact rc_eq_decline_or (k := false) ⟨_, ho, hc⟩ (typeIs_str s b u) (by decide) F.sub_str_dict F.slot_dict_eq F.slot_str_eq_refl
    (fun _ hq => call_meets F.slot_dict_eq ⟨_, ho, hc⟩ F.entry_dict_eq (F.args_dict_eq_2 _ _) (dict_declines_str l o b u hc) ⟨ho, hq⟩)
    (fun _ hq => call_meets F.slot_str_eq_refl (typeIs_str s b u) F.entry_str_eq (F.args_str_eq_2 _ _) (str_declines_dict b u l o es ep hc hd) ⟨ho, hq⟩)
    (fun _ hq => wpAny_of_eq (rfl : isSame (.ref l) (.str b u) = pure false) hq) (.inr hu) h
theorem rc_str_dict {l : Addr} {o : Obj} {es : Array DictEntry} {ep : Nat} (b : Str) (u : Tok) (ho : s.heap.get? l = some o) (hc : o.cls = .type "dict") (hd : o.data = .dict es ep) (hu : A.units < cLine) : RcAt A s (.str b u) (.ref l) false := fun prog w E Q h => by
  exact rc_eq_decline_or (k := false) (typeIs_str s b u) ⟨_, ho, hc⟩ (by decide) F.sub_dict_str F.slot_str_eq F.slot_dict_eq_refl
    (fun _ hq => call_meets F.slot_str_eq (typeIs_str s b u) F.entry_str_eq (F.args_str_eq_2 _ _) (str_declines_dict b u l o es ep hc hd) ⟨ho, hq⟩)
    (fun _ hq => call_meets F.slot_dict_eq_refl ⟨_, ho, hc⟩ F.entry_dict_eq (F.args_dict_eq_2 _ _) (dict_declines_str l o b u hc) ⟨ho, hq⟩)
    (fun _ hq => wpAny_of_eq (rfl : isSame (.str b u) (.ref l) = pure false) hq) (.inr hu) h
theorem eq_dict_str {l : Addr} {o : Obj} {es : Array DictEntry} {ep : Nat} (b : Str) (u : Tok) (ho : s.heap.get? l = some o) (hc : o.cls = .type "dict") (hd : o.data = .dict es ep) (hu : A.units < cLine) : EqAt A s (.ref l) (.str b u) false := fun prog w E Q h => by
  unfold eqBool
  refine wpAny_holding ?_
  refine wpAny_ite_split (fun hab => absurd (eq_of_beq hab) nofun) (fun _ => ?_)
  exact wpAny_bind (rc_dict_str b u ho hc hd hu prog w E _ (wpAny_truthy_bool h))
theorem eq_str_dict {l : Addr} {o : Obj} {es : Array DictEntry} {ep : Nat} (b : Str) (u : Tok) (ho : s.heap.get? l = some o) (hc : o.cls = .type "dict") (hd : o.data = .dict es ep) (hu : A.units < cLine) : EqAt A s (.str b u) (.ref l) false := fun prog w E Q h => by
  unfold eqBool
  refine wpAny_holding ?_
  refine wpAny_ite_split (fun hab => absurd (eq_of_beq hab) nofun) (fun _ => ?_)
  exact wpAny_bind (rc_str_dict b u ho hc hd hu prog w E _ (wpAny_truthy_bool h))
theorem rc_dict_tup {l b : Addr} {o : Obj} {es : Array DictEntry} {ep : Nat} {items : Array Value} (ho : s.heap.get? l = some o) (hc : o.cls = .type "dict") (hd : o.data = .dict es ep) (hb : s.heap.IsTuple b items) (hu : A.units < cLine) : RcAt A s (.ref l) (.ref b) false := fun prog w E Q h => by
  obtain ⟨⟨cls2, dd2, data2, sl2⟩, ho2, hc2, n2, hd2⟩ := id hb
  simp only at hc2 hd2
  subst hc2 hd2
  have hne : l ≠ b := fun e => by
    subst e
    rw [ho] at ho2
    cases ho2
    exact absurd hc (by simp)
  exact (rc_eq_decline_or (k := false) ⟨_, ho, hc⟩ ⟨_, ho2, rfl⟩ (by decide) F.sub_tuple_dict F.slot_dict_eq F.slot_tuple_eq_refl
    (fun _ hq => call_meets F.slot_dict_eq ⟨_, ho, hc⟩ F.entry_dict_eq (F.args_dict_eq_2 _ _) (dict_declines_tup l b o _ hc rfl) ⟨ho, ho2, hq⟩)
    (fun _ hq => call_meets F.slot_tuple_eq_refl ⟨_, ho2, rfl⟩ F.entry_tuple_eq (F.args_tuple_eq_2 _ _) (tup_declines_dict b l items n2 dd2 sl2 o hc) ⟨ho2, ho, hq⟩)
    (fun _ hq => wpAny_isSame_ref_other hne ho ho2 (by rw [hc]; simp) hq) (.inr hu) h)
end
end DLQ
namespace DL
open PySem L2 PySem.Spec PyProof.Rows
/-- a text as this value: whether it is this text -/
def isS (d : PyData) (b : Str) : Bool := match d with
  | .str a => a == b
  | _ => false
def oneT (x : PyData) (b : Str) : Bool := match x with
  | .tuple [d] => isS d b
  | _ => false
def gEqT (x y : PyData) : Option PyData := match y with
  | .tuple [.str b] => some (.bool (oneT x b))
  | _ => none
def neB : List Str → List PyData → Option PyData
  | [], [] => some (.bool false)
  | [a], [d] => some (.bool (!isS d a))
  | _, _ => none
theorem neB_is : ∀ {ts : List Str} {ds : List PyData} {d : PyData}, neB ts ds = some d → d = .bool (!(List.range ts.length).all fun j => isS (ds.getD j .none) (ts.getD j Str.empty))
  | [], [], d, e => by cases e; rfl
  | [a], [x], d, e => by
    cases e
    show _ = PyData.bool (!(isS x a && true))
    rw [Bool.and_true]
  | [], _ :: _, d, e => by cases e
  | [_], [], d, e => by cases e
  | [_], _ :: _ :: _, d, e => by cases e
  | _ :: _ :: _, [], d, e => by cases e
  | _ :: _ :: _, [_], d, e => by cases e
  | _ :: _ :: _, _ :: _ :: _, d, e => by cases e
def gNeL (x y : PyData) : Option PyData := match x, y with
  | .list zs, .list ds => (strsOf zs).bind fun as => if as.length = ds.length then neB as ds else some (.bool true)
  | _, _ => none
theorem eqS_reads {A : Around} {s : Shared} {v : Value} {d : PyData} {as : List Addr} (r : Reads s.heap v d as) (b : Str) (u : Tok) (hu : A.units < cLine) : SeqAt.EqAt A s v (.str b u) (isS d b) := by
  cases r with
  | none => exact SeqAt.EqAt.none_str b u
  | bool c => exact SeqAt.EqAt.bool_str c b u
  | int i t => exact SeqAt.EqAt.int_str i t b u
  | str x t => exact SeqAt.EqAt.str_str x t b u
  | @list a o vs n xs as h1 h2 h3 h4 => exact SeqAt.EqAt.list_str b u ⟨o, h1, h2, n, h3⟩ hu
  | @tuple a o vs n xs as h1 h2 h3 h4 => exact SeqAt.EqAt.tuple_str b u ⟨o, h1, h2, n, h3⟩ hu
  | dict h1 h2 h3 h4 h5 => exact DLQ.eq_dict_str b u h1 h2 h3 hu
theorem eqS_reads' {A : Around} {s : Shared} {v : Value} {d : PyData} {as : List Addr} (r : Reads s.heap v d as) (b : Str) (u : Tok) (hu : A.units < cLine) : SeqAt.EqAt A s (.str b u) v (isS d b) := by
  cases r with
  | none => exact SeqAt.EqAt.str_none b u
  | bool c => exact SeqAt.EqAt.str_bool b u c
  | int i t => exact SeqAt.EqAt.str_int b u i t
  | str x t =>
    have e := SeqAt.EqAt.str_str b u x t (A := A) (s := s)
    have : isS (.str x) b = (b == x) := by show (x == b) = _; exact Bool.beq_comm
    rw [this]; exact e
  | @list a o vs n xs as h1 h2 h3 h4 => exact SeqAt.EqAt.str_list b u ⟨o, h1, h2, n, h3⟩ hu
  | @tuple a o vs n xs as h1 h2 h3 h4 => exact SeqAt.EqAt.str_tuple b u ⟨o, h1, h2, n, h3⟩ hu
  | dict h1 h2 h3 h4 h5 => exact DLQ.eq_str_dict b u h1 h2 h3 hu
theorem readsAll_get {h : Heap} : ∀ {us : List Value} {ds : List PyData} {as : List Addr}, ReadsAll h us ds as → us.length = ds.length ∧ ∀ (i : Nat) u d, us[i]? = some u → ds[i]? = some d → ∃ bs, Reads h u d bs
  | _, _, _, .nil => ⟨rfl, fun i u d h _ => by simp at h⟩
  | _, _, _, .cons r t => by
    obtain ⟨l, g⟩ := readsAll_get t
    refine ⟨by simp [l], fun i u d h1 h2 => ?_⟩
    cases i with
    | zero =>
      simp at h1 h2
      exact ⟨_, h1 ▸ h2 ▸ r⟩
    | succ i => exact g i u d (by simpa using h1) (by simpa using h2)
theorem rcT_reads {A : Around} {s : Shared} {v : Value} {d : PyData} {as : List Addr} (r : Reads s.heap v d as) {w : Value} {b : Str} {bs : List Addr} (r2 : Reads s.heap w (.tuple [.str b]) bs) (hu : A.units + 1 < cLine) :
    SeqAt.RcAt A s v w (oneT d b) := by
  cases r2 with
  | @tuple a2 o2 vs2 n2 xs2 as2 k1 k2 k3 k4 =>
    have hu0 : A.units < cLine := by omega
    have hb : s.heap.IsTuple a2 vs2 := ⟨o2, k1, k2, n2, k3⟩
    cases r with
    | none => exact SeqAt.RcAt.none_tuple hb hu0
    | bool c => exact SeqAt.RcAt.bool_tuple c hb hu0
    | int i t => exact SeqAt.RcAt.int_tuple i t hb hu0
    | str x t => exact SeqAt.RcAt.str_tuple x t hb hu0
    | @list a o vs n xs as h1 h2 h3 h4 => exact SeqAt.RcAt.list_tuple ⟨o, h1, h2, n, h3⟩ hb hu0
    | dict h1 h2 h3 h4 h5 => exact DLQ.rc_dict_tup h1 h2 h3 hb hu0
    | @tuple a o vs n xs as h1 h2 h3 h4 =>
      obtain ⟨l1, g1⟩ := readsAll_get h4
      obtain ⟨l2, g2⟩ := readsAll_get k4
      have s2 : vs2.size = 1 := by rw [← Array.length_toList, l2]; rfl
      have e := SeqAt.RcAt.tuples (e := fun j => isS (xs.getD j .none) b) ⟨o, h1, h2, n, h3⟩ hb hu0 fun j h1 h2 => by
        have j0 : j = 0 := by omega
        subst j0
        have x0 : 0 < xs.length := by rw [← l1, Array.length_toList]; exact h1
        obtain ⟨c1, q1⟩ := g1 0 vs[0] xs[0] (by rw [Array.getElem?_toList]; exact Array.getElem?_eq_getElem h1) (List.getElem?_eq_getElem x0)
        obtain ⟨c2, q2⟩ := g2 0 vs2[0] (.str b) (by rw [Array.getElem?_toList]; exact Array.getElem?_eq_getElem h2) rfl
        have x1 : xs.getD 0 .none = xs[0] := by rw [List.getD_eq_getElem?_getD, List.getElem?_eq_getElem x0]; rfl
        rw [x1]
        generalize vs2[0] = w0 at q2 ⊢
        cases q2
        exact eqS_reads q1 b _ (by show A.units + 1 < cLine; exact hu)
      have sz : vs.size = xs.length := by rw [← l1, Array.length_toList]
      have fin : ((List.range (min vs.size vs2.size)).all (fun j => isS (xs.getD j .none) b) && vs.size == vs2.size) = oneT (.tuple xs) b := by
        rw [sz, s2]
        match xs with
        | [] => rfl
        | [d] =>
          show ((List.range 1).all (fun j => isS ([d].getD j .none) b) && true) = isS d b
          rw [Bool.and_true]
          show (isS d b && true) = _
          rw [Bool.and_true]
        | d :: d' :: r =>
          have : ((d :: d' :: r).length == 1) = false := by
            rw [beq_eq_false_iff_ne]; simp
          rw [this, Bool.and_false]; rfl
      rw [fin] at e
      exact e
section
variable {ι : Type} {Xf : ι → Cx} {P : Program} {w : World} {K : PySem.W.Frag} {mg : Str → Option Value} {base : Heap} {n : Nat} [F : Fam Xf P w K mg base n]
include F
theorem op_eqT' (i : ι) : OpR (Xf i) (compareOp .Eq) (r2S K gEqT) := by
  intro pins s σ H x y v u Q I rx ry h
  obtain ⟨dx, dy, d, z, hx, hy, e, hz, q⟩ := h
  rw [← F.kk i] at hx hy
  obtain ⟨as, r1⟩ := hx.reads I rx
  obtain ⟨bs, r2⟩ := hy.reads I ry
  unfold gEqT at e
  split at e
  · cases e
    exact rcT_reads r1 r2 (by have := (F.room i).un; omega) _ _ _ _ (boolE I hz q)
  · cases e
theorem opEqT : Op2 Xf K (compareOp .Eq) .s gEqT := ⟨_, op_eqT', d2S fun a b d e => by
  unfold gEqT at e
  split at e
  · cases e; exact ⟨_, rfl⟩
  · cases e⟩
theorem op_neL' (i : ι) : OpR (Xf i) (compareOp .NotEq) (r2S K gNeL) := by
  intro pins s σ H x y v u Q I rx ry h
  obtain ⟨dx, dy, d, z, hx, hy, e, hz, q⟩ := h
  rw [← F.kk i] at hx hy
  obtain ⟨as, r1⟩ := hx.reads I rx
  obtain ⟨bs, r2⟩ := hy.reads I ry
  have hu : (Xf i).A.units + 1 < cLine := by have := (F.room i).un; omega
  unfold gNeL at e
  split at e
  · rename_i zs ds
    obtain ⟨ts, h1, e2⟩ := Option.bind_eq_some_iff.mp e
    clear e
    have e := e2
    clear e2
    have ez := strsOf_eq h1
    subst ez
    cases r1 with
    | @list a1 o1 vs1 n1 xs1 as1 k1 k2 k3 k4 =>
      cases r2 with
      | @list a2 o2 vs2 n2 xs2 as2 j1 j2 j3 j4 =>
        obtain ⟨l1, g1⟩ := readsAll_get k4
        obtain ⟨l2, g2⟩ := readsAll_get j4
        rw [Array.length_toList, List.length_map] at l1
        rw [Array.length_toList] at l2
        split at e
        · rename_i hl
          have eb := neB_is e
          subst eb
          have en := SeqAt.RcNeAt.lists (A := (Xf i).A) (s := s) (e := fun j => isS (ds.getD j .none) (ts.getD j Str.empty)) ⟨o1, k1, k2, n1, k3⟩ ⟨o2, j1, j2, n2, j3⟩ (by omega) (by omega) fun j h1 h2 => by
            have t1 : j < ts.length := by omega
            have t2 : j < ds.length := by omega
            obtain ⟨c1, q1⟩ := g1 j vs1[j] (.str ts[j]) (by rw [Array.getElem?_toList]; exact Array.getElem?_eq_getElem h1) (by rw [List.getElem?_map, List.getElem?_eq_getElem t1]; rfl)
            obtain ⟨c2, q2⟩ := g2 j vs2[j] ds[j] (by rw [Array.getElem?_toList]; exact Array.getElem?_eq_getElem h2) (List.getElem?_eq_getElem t2)
            have x1 : ts.getD j Str.empty = ts[j] := by rw [List.getD_eq_getElem?_getD, List.getElem?_eq_getElem t1]; rfl
            have x2 : ds.getD j .none = ds[j] := by rw [List.getD_eq_getElem?_getD, List.getElem?_eq_getElem t2]; rfl
            rw [x1, x2]
            generalize vs1[j] = w0 at q1 ⊢
            cases q1
            exact eqS_reads' q2 _ _ (by show (Xf i).A.units + 1 < cLine; exact hu)
          rw [l1] at en
          exact en _ _ _ _ (boolE I hz q)
        · rename_i hl
          cases e
          exact SeqAt.RcNeAt.lists_lengths (A := (Xf i).A) (s := s) ⟨o1, k1, k2, n1, k3⟩ ⟨o2, j1, j2, n2, j3⟩ (by rw [bne_iff_ne]; omega) (by omega) _ _ _ _ (boolE I hz q)
  · cases e
theorem opNeL : Op2 Xf K (compareOp .NotEq) .s gNeL := ⟨_, op_neL', d2S fun a b d e => by
  unfold gNeL at e
  split at e
  · obtain ⟨ts, _, e⟩ := Option.bind_eq_some_iff.mp e
    split at e
    · exact ⟨.bl _, by rw [neB_is e]; rfl⟩
    · cases e; exact ⟨_, rfl⟩
  · cases e⟩
end
end DL

namespace DL
open PySem L2 PySem.Spec
@[simp] theorem rUnal {i j0 j1 : Nat} {e : En} : sUnal i j0 j1 e = (gHd2 (e.getD i .none)).bind fun q => some (.nx, (e.set j0 q.1).set j1 q.2) := rfl
@[simp] theorem rAl {j : Nat} {r : Lf} {e : En} : lAl j r e = (r e).bind fun p => some (p.2.getD j .none :: p.1, p.2) := rfl
end DL

namespace DL
open PySem L2 PySem.Spec
@[simp] theorem rDVals {j : Nat} {e : En} : eDVals j e = (gDVals (e.getD j .none)).bind fun d => some (d, e) := rfl
@[simp] theorem reThaw {f : Ef} {e : En} : eThaw f e = (f e).bind fun p => (grd (flat1 p.1)).bind fun _ => some p := rfl
@[simp] theorem rbTrue {e : En} : bTrue e = some (true, e) := rfl
section
variable {tb : CT} {j : Nat} {f : Ef} {fb fs : Sf} {e : En} {v : PyData}
@[simp] theorem rsAsgE : sAsgE tb j f e = (f e).bind fun p => (gIsOk tb p.1).bind fun w => (asB w).bind fun b => if b = true then (gUn p.1).bind fun d => some (.nx, p.2.set j d) else some (.rt p.1, p.2) := rfl
@[simp] theorem rsDropE : sDropE tb f e = (f e).bind fun p => (gIsOk tb p.1).bind fun w => (asB w).bind fun b => if b = true then some (.nx, p.2) else some (.rt p.1, p.2) := rfl
@[simp] theorem rsRetE : sRetE tb f e = (f e).bind fun p => (gIsOk tb p.1).bind fun _ => some (.rt p.1, p.2) := rfl
@[simp] theorem rsTryB : sTryB tb j fb fs e = (fb e).bind fun p => tryR tb j fs p := rfl
@[simp] theorem rsTryC : sTryC tb fb fs e = (fb e).bind fun p => tryR0 tb fs p := rfl
@[simp] theorem rTry1 : tryR tb j fs (.rt v, e) = (gIsOk tb v).bind fun w => (asB w).bind fun b => if b = true then (gUn v).bind fun d => some (.rt d, e) else fs (e.set j v) := rfl
@[simp] theorem rTry2 : tryR tb j fs (.nx, e) = some (.nx, e) := rfl
@[simp] theorem rTry3 : tryR tb j fs (.bk, e) = some (.bk, e) := rfl
@[simp] theorem rTry4 : tryR tb j fs (.ct, e) = some (.ct, e) := rfl
@[simp] theorem rTry5 : tryR0 tb fs (.rt v, e) = (gIsOk tb v).bind fun w => (asB w).bind fun b => if b = true then (gUn v).bind fun d => some (.rt d, e) else fs e := rfl
@[simp] theorem rTry6 : tryR0 tb fs (.nx, e) = some (.nx, e) := rfl
@[simp] theorem rTry7 : tryR0 tb fs (.bk, e) = some (.bk, e) := rfl
@[simp] theorem rTry8 : tryR0 tb fs (.ct, e) = some (.ct, e) := rfl
end
end DL

namespace DL
open PySem L2 PySem.Spec
section
variable {g gi gv : Gq} {pt : Pf} {e : En}
@[simp] theorem rsAugS : sAugS g pt gi gv e = (g e).bind fun d => (gi e).bind fun i => (gv e).bind fun v => (gAugS d i v).bind fun l => some (.nx, pt e l) := rfl
end
@[simp] theorem rExtV {j l : Nat} {e : En} : eExtV j l e = (gExt (e.getD j .none) (e.getD l .none)).bind fun d => some (.none, e.set j d) := rfl
@[simp] theorem rUpdT {j : Nat} {f : Ef} {e : En} : eUpdT j f e = (f e).bind fun p => (gUpdT (p.2.getD j .none) p.1).bind fun d => some (.none, p.2.set j d) := rfl
end DL

namespace DL
open PySem L2 PySem.Spec
section
variable {j : Nat} {f g : Ef} {e : En} {ng : Bool}
@[simp] theorem rTGet : eTGet j f e = (f e).bind fun p => (gTGet (p.2.getD j .none) p.1).bind fun d => some (d, p.2) := rfl
@[simp] theorem rTOne : eTOne f g e = (f e).bind fun p => (g p.2).bind fun q => (gTOne p.1 q.1).bind fun d => some (d, q.2) := rfl
@[simp] theorem rTInE : eTInE ng f g e = (f e).bind fun p => (g p.2).bind fun q => (gTIn ng q.1 p.1).bind fun d => some (d, q.2) := rfl
@[simp] theorem rsTPutD : sTPutD j f g e = (g e).bind fun p => (f p.2).bind fun q => (gTPut (q.2.getD j .none) q.1 p.1).bind fun d => some (.nx, q.2.set j d) := rfl
end
end DL

namespace DL
open PySem L2 PySem.Spec
/-! ### run lemmas of the objects' words -/
def gNewF : PyData → PyData → Option PyData
  | .list ds, x => some (.list (ds ++ [x]))
  | _, _ => none
def gInit : PyData × List PyData → Option PyData
  | (.none, f0 :: _) => some f0
  | _ => none
section
variable {j : Nat} {f g : Ef} {e : En} {fr : Lf} {Fn : DFn}
@[simp] theorem rsNewF : sNewF j f e = (f e).bind fun p => (gNewF (p.2.getD j .none) p.1).bind fun d => some (.nx, p.2.set j d) := by
  show (f e).bind _ = _
  congr 1
  funext p
  cases h : p.2.getD j .none <;> simp only [gNewF] <;> rfl
@[simp] theorem rMake : eMake Fn fr e = (fr e).bind fun p => (Fn (.list [] :: p.1)).bind fun q => (gInit q).bind fun d => some (d, p.2) := by
  show (fr e).bind _ = _
  congr 1
  funext p
  congr 1
  funext q
  obtain ⟨d, fs⟩ := q
  cases d <;> cases fs <;> rfl
end
end DL

namespace DL
open PySem L2 PySem.Spec
@[simp] theorem stb_o {C : Addr} {ns : List Str} {ts : List Ty} : stb (.o C ns ts) = false := rfl
@[simp] theorem stb_f {C : Addr} {ns : List Str} : stb (.f C ns) = true := rfl
@[simp] theorem gInit_mk {d : PyData} {ds : List PyData} : gInit (.none, d :: ds) = some d := rfl
section
variable {j k : Nat} {f : Ef} {e : En} {Fn : DFn} {rty : Ty} {ds : List PyData}
@[simp] theorem rBor : borF rty Fn ds = (Fn ds).bind fun p => (grd (flatR rty p.1)).bind fun _ => some (p.1, ds) := rfl
@[simp] theorem rAppF : eAppF j k f e = (f e).bind fun p => (gAppF k (e.getD j .none) p.1).bind fun d => some (.none, p.2.set j d) := rfl
end
end DL

namespace DL
open PySem L2 PySem.Spec

/-! ### data, plainly -/
theorem le_line {n : Nat} (h : n ≤ 1000000) : n ≤ sizeLine := Nat.le_trans h (by decide)
theorem lt_line {n : Nat} (h : n ≤ 1000000) : n < sizeLine := Nat.lt_of_le_of_lt h (by decide)
section
variable {i j : Int} {b c : Bool} {x y z d : PyData} {xs ys zs : List PyData} {s t : Str} {α β γ σ : Type}
@[simp] theorem asB_bool : asB (.bool b) = some b := rfl
@[simp] theorem ifB_bool {p q : Option α} : ifB (.bool b) p q = if b = true then p else q := by cases b <;> rfl
@[simp] theorem un2_ok : un2 (.tuple [x, y]) = some (x, y) := rfl
@[simp] theorem un3_ok : un3 (.tuple [x, y, z]) = some (x, y, z) := rfl
@[simp] theorem un4_ok : un4 (.tuple [x, y, z, d]) = some (x, y, z, d) := rfl
@[simp] theorem grd_true : grd true = some () := rfl
@[simp] theorem xAdd : gAdd (.int i) (.int j) = some (.int (i + j)) := rfl
@[simp] theorem xAddB : gAdd (.bool b) (.int j) = some (.int (bI b + j)) := rfl
@[simp] theorem xSub : DL.gSub (.int i) (.int j) = some (.int (i - j)) := rfl
@[simp] theorem xSubB : DL.gSub (.bool b) (.int j) = some (.int (bI b - j)) := rfl
@[simp] theorem xNeg : gNeg (.int i) = some (.int (-i)) := rfl
@[simp] theorem xAddI : gAddI (.int i) (.int j) = some (.int (i + j)) := rfl
theorem xMul (h : i.natAbs < 2 ^ 64 ∨ j.natAbs < 2 ^ 64) : gMul (.int i) (.int j) = some (.int (i * j)) := by
  show (if mulOk i j = true then _ else _) = _
  rw [if_pos]
  unfold mulOk
  rcases h with h | h
  · rw [decide_eq_true h]; rfl
  · rw [decide_eq_true h, Bool.or_true]
theorem xFdivW {k : Nat} (h : 0 < j) (h2 : j.natAbs < 2 ^ k) (hk : k ≤ 9000) : gFdiv (.int i) (.int j) = some (.int (i / j)) :=
  if_pos ⟨h, Nat.lt_of_lt_of_le ((Nat.log2_lt (show j.natAbs ≠ 0 by omega)).mpr h2) hk⟩
theorem xFdiv (h : 0 < j) (h2 : j < 1073741824) : gFdiv (.int i) (.int j) = some (.int (i / j)) := xFdivW (k := 30) h (by omega) (by decide)
theorem xMod (h : 0 < j) : gMod (.int i) (.int j) = some (.int (i % j)) := if_pos h
@[simp] theorem xLt : gLt (.int i) (.int j) = some (.bool (decide (i < j))) := rfl
@[simp] theorem xGt : gGt (.int i) (.int j) = some (.bool (decide (j < i))) := rfl
@[simp] theorem xLe : gLe (.int i) (.int j) = some (.bool (decide (i ≤ j))) := rfl
@[simp] theorem xGe : gGe (.int i) (.int j) = some (.bool (decide (j ≤ i))) := rfl
/-! equality -/
theorem eqv_int : PyData.eqv (.int i) (.int j) = decide (i = j) := by
  unfold PyData.eqv
  by_cases h : i = j <;> simp [h]
theorem eqv_str : PyData.eqv (.str s) (.str t) = (s == t) := by unfold PyData.eqv; rfl
theorem eqv_bool : PyData.eqv (.bool b) (.bool c) = (b == c) := by unfold PyData.eqv; cases b <;> cases c <;> rfl
theorem eqv_tuple : PyData.eqv (.tuple xs) (.tuple ys) = PyData.eqvAll xs ys := by rw [PyData.eqv]
theorem eqv_list : PyData.eqv (.list xs) (.list ys) = PyData.eqvAll xs ys := by rw [PyData.eqv]
theorem eqv_nil : PyData.eqvAll xs [] = xs.isEmpty := by cases xs <;> simp [PyData.eqvAll]
theorem gEq_ok (h : x.depth ≤ 60 ∨ y.depth ≤ 60) (hx : x.plain = true) (hy : y.plain = true) : gEq x y = some (.bool (PyData.eqv x y)) := by
  unfold gEq dep pln
  rw [hx, hy, if_pos]
  rw [decide_eq_true]
  · rfl
  · rcases h with h | h
    · exact Nat.le_trans (Nat.min_le_left _ _) h
    · exact Nat.le_trans (Nat.min_le_right _ _) h
theorem gNe_ok (h : x.depth ≤ 60 ∨ y.depth ≤ 60) (hx : x.plain = true) (hy : y.plain = true) : gNe x y = some (.bool (!PyData.eqv x y)) := by
  unfold gNe dep pln
  rw [hx, hy, if_pos]
  rw [decide_eq_true]
  · rfl
  · rcases h with h | h
    · exact Nat.le_trans (Nat.min_le_left _ _) h
    · exact Nat.le_trans (Nat.min_le_right _ _) h
@[simp] theorem xEq : gEq (.int i) (.int j) = some (.bool (decide (i = j))) := by rw [gEq_ok (x := .int i) (y := .int j) (.inl (Nat.zero_le 60)) rfl rfl, eqv_int]
@[simp] theorem xNe : gNe (.int i) (.int j) = some (.bool (!decide (i = j))) := by rw [gNe_ok (x := .int i) (y := .int j) (.inl (Nat.zero_le 60)) rfl rfl, eqv_int]
@[simp] theorem xEqS : gEq (.str s) (.str t) = some (.bool (s == t)) := by rw [gEq_ok (x := .str s) (y := .str t) (.inl (Nat.zero_le 60)) rfl rfl, eqv_str]
@[simp] theorem xNeS : gNe (.str s) (.str t) = some (.bool (!(s == t))) := by rw [gNe_ok (x := .str s) (y := .str t) (.inl (Nat.zero_le 60)) rfl rfl, eqv_str]
@[simp] theorem xEqB : gEq (.bool b) (.bool c) = some (.bool (b == c)) := by rw [gEq_ok (x := .bool b) (y := .bool c) (.inl (Nat.zero_le 60)) rfl rfl, eqv_bool]
@[simp] theorem xNeB : gNe (.bool b) (.bool c) = some (.bool (!(b == c))) := by rw [gNe_ok (x := .bool b) (y := .bool c) (.inl (Nat.zero_le 60)) rfl rfl, eqv_bool]
theorem plain_nil : PyData.plainAll [] = true := by unfold PyData.plainAll; rfl
theorem plain_cons : PyData.plainAll (x :: xs) = (x.plain && PyData.plainAll xs) := by rw [PyData.plainAll]
theorem plain_all (h : ∀ x ∈ xs, x.plain = true) : PyData.plainAll xs = true := by
  induction xs with
  | nil => exact plain_nil
  | cons x xs ih => rw [plain_cons, h x (List.mem_cons_self ..), ih fun y hy => h y (List.mem_cons_of_mem _ hy)]; rfl
theorem plain_map {f : α → PyData} (h : ∀ a, (f a).plain = true) {l : List α} : PyData.plainAll (l.map f) = true := plain_all fun x hx => by
  obtain ⟨a, _, rfl⟩ := List.mem_map.mp hx
  exact h a
theorem depth_all {n : Nat} (h : ∀ x ∈ xs, x.depth ≤ n) : PyData.depthAll xs ≤ n := by
  induction xs with
  | nil => unfold PyData.depthAll; omega
  | cons x xs ih =>
    unfold PyData.depthAll
    exact Nat.max_le.mpr ⟨h x (List.mem_cons_self ..), ih fun y hy => h y (List.mem_cons_of_mem _ hy)⟩
theorem depth_map {n : Nat} {f : α → PyData} (h : ∀ a, (f a).depth ≤ n) {l : List α} : PyData.depthAll (l.map f) ≤ n := depth_all fun x hx => by
  obtain ⟨a, _, rfl⟩ := List.mem_map.mp hx
  exact h a
theorem depth_tuple : (PyData.tuple xs).depth = PyData.depthAll xs + 1 := by rw [PyData.depth]
@[simp] theorem depth_int : (PyData.int i).depth = 0 := rfl
@[simp] theorem plain_int : (PyData.int i).plain = true := rfl
@[simp] theorem xEqNilL : gEq (.list xs) (.list []) = some (.bool xs.isEmpty) := by
  have h : (dep (.list xs) (.list []) && pln (.list xs) (.list [])) = true := by
    have : dep (.list xs) (.list []) = true := decide_eq_true (Nat.le_trans (Nat.min_le_right _ _) (by decide))
    rw [this]
    unfold pln
    exact Bool.or_true _
  unfold gEq
  rw [if_pos h, eqv_list, eqv_nil]
@[simp] theorem xNeNilL : gNe (.list xs) (.list []) = some (.bool (!xs.isEmpty)) := by
  have h : (dep (.list xs) (.list []) && pln (.list xs) (.list [])) = true := by
    have : dep (.list xs) (.list []) = true := decide_eq_true (Nat.le_trans (Nat.min_le_right _ _) (by decide))
    rw [this]
    unfold pln
    exact Bool.or_true _
  unfold gNe
  rw [if_pos h, eqv_list, eqv_nil]
@[simp] theorem xEqNilT : gEq (.tuple xs) (.tuple []) = some (.bool xs.isEmpty) := by
  have h : (dep (.tuple xs) (.tuple []) && pln (.tuple xs) (.tuple [])) = true := by
    have : dep (.tuple xs) (.tuple []) = true := decide_eq_true (Nat.le_trans (Nat.min_le_right _ _) (by decide))
    rw [this]
    unfold pln
    exact Bool.or_true _
  unfold gEq
  rw [if_pos h, eqv_tuple, eqv_nil]
@[simp] theorem xNeNilT : gNe (.tuple xs) (.tuple []) = some (.bool (!xs.isEmpty)) := by
  have h : (dep (.tuple xs) (.tuple []) && pln (.tuple xs) (.tuple [])) = true := by
    have : dep (.tuple xs) (.tuple []) = true := decide_eq_true (Nat.le_trans (Nat.min_le_right _ _) (by decide))
    rw [this]
    unfold pln
    exact Bool.or_true _
  unfold gNe
  rw [if_pos h, eqv_tuple, eqv_nil]
/-! sequences -/
@[simp] theorem xLenL : gLen (.list xs) = some (.int xs.length) := rfl
@[simp] theorem xLenT : gLen (.tuple xs) = some (.int xs.length) := rfl
@[simp] theorem xLenLL : gLenL (.list xs) = some (.int xs.length) := rfl
@[simp] theorem xTupL : gTuple (.list xs) = some (.tuple xs) := rfl
@[simp] theorem xTupT : gTuple (.tuple xs) = some (.tuple xs) := rfl
@[simp] theorem xListL : gList (.list xs) = some (.list xs) := rfl
@[simp] theorem xListT : gList (.tuple xs) = some (.list xs) := rfl
@[simp] theorem xAbs : gAbs (.int i) = some (.int (if i < 0 then -i else i)) := rfl
@[simp] theorem xIxL : gIx (.list xs) (.int i) = atI xs i := rfl
@[simp] theorem xIxT : gIx (.tuple xs) (.int i) = atI xs i := rfl
@[simp] theorem xItem : itemD (.list xs) (.int i) = atI xs i := rfl
@[simp] theorem xSeqL : seqD (.list xs) = some xs := rfl
@[simp] theorem xSeqT : seqD (.tuple xs) = some xs := rfl
@[simp] theorem xEnL : gEn (.list xs) = some (enumD 0 xs) := rfl
@[simp] theorem xEnT : gEn (.tuple xs) = some (enumD 0 xs) := rfl
@[simp] theorem xZipL : zipS (.list xs) (.list ys) = some (zipD xs ys) := rfl
@[simp] theorem xZipT : zipS (.tuple xs) (.tuple ys) = some (zipD xs ys) := rfl
@[simp] theorem xIsa {p : PyData → Bool} : gIsa p d = some (.bool (p d)) := rfl
@[simp] theorem xTruB : gTruth (.bool b) = some b := rfl
@[simp] theorem xTruL : gTruth (.list xs) = some (!xs.isEmpty) := rfl
@[simp] theorem xTruT : gTruth (.tuple xs) = some (!xs.isEmpty) := rfl
def isN : PyData → Bool
  | .none => true
  | _ => false
@[simp] theorem isN0 : isN .none = true := rfl
@[simp] theorem isN1 : isN (.int i) = false := rfl
@[simp] theorem isN2 : isN (.bool b) = false := rfl
@[simp] theorem isN3 : isN (.str s) = false := rfl
@[simp] theorem isN4 : isN (.list xs) = false := rfl
@[simp] theorem isN5 : isN (.tuple xs) = false := rfl
@[simp] theorem xIsN : gIs d .none = some (.bool (isN d)) := by cases d <;> rfl
@[simp] theorem xIsNotN : gIsNot d .none = some (.bool (!isN d)) := by cases d <;> rfl
@[simp] theorem xIsB : gIs (.bool b) (.bool c) = some (.bool (b == c)) := rfl
@[simp] theorem xIsNotB : gIsNot (.bool b) (.bool c) = some (.bool (!(b == c))) := rfl
@[simp] theorem xIsNB : gIs .none (.bool c) = some (.bool false) := rfl
@[simp] theorem xBackT : gBack (.tuple xs) = some (.tuple xs.reverse) := rfl
@[simp] theorem xBackL : gBack (.list xs) = some (.list xs.reverse) := rfl
@[simp] theorem xPrt : prt (.int i) = some (some i) := rfl
theorem xAllL (h : PyData.plainAll xs = true) : gAll (.list xs) = some (.bool (xs.all PyData.truthy)) := if_pos h
theorem xAllB {f : α → Bool} {l : List α} : gAll (.list (l.map fun a => .bool (f a))) = some (.bool (l.all f)) := by
  rw [xAllL (plain_map fun _ => rfl), List.all_map]; rfl
theorem xAddT (h : xs.length + ys.length ≤ 1000000) : gAdd (.tuple xs) (.tuple ys) = some (.tuple (xs ++ ys)) := if_pos (le_line h)
theorem xAddL (h : xs.length + ys.length ≤ 1000000) : gAdd (.list xs) (.list ys) = some (.list (xs ++ ys)) := if_pos (le_line h)
theorem xApp (h : xs.length ≤ 1000000) : gApp (.list xs) x = some (.list (xs ++ [x])) := if_pos (lt_line h)
theorem xExt (h : xs.length + ys.length ≤ 1000000) : gExt (.list xs) (.list ys) = some (.list (xs ++ ys)) := if_pos (le_line h)
theorem xPow (h : 0 ≤ j) (h2 : j ≤ 1000000) (h3 : i.natAbs < 2 ^ 64) : gPow (.int i) (.int j) = some (.int (i ^ j.toNat)) := if_pos ⟨h, h2, h3⟩
@[simp] theorem scInt : scD (.int i) = true := rfl
@[simp] theorem scBool : scD (.bool b) = true := rfl
@[simp] theorem at0 {a : α} {l : List α} : atI (a :: l) 0 = some a := by
  have : atI (a :: l) ((0 : Nat) : Int) = some a := atI_nat rfl
  exact this
@[simp] theorem at1 {a b : α} {l : List α} : atI (a :: b :: l) 1 = some b := by
  have : atI (a :: b :: l) ((1 : Nat) : Int) = some b := atI_nat rfl
  exact this
@[simp] theorem at2 {a b c : α} {l : List α} : atI (a :: b :: c :: l) 2 = some c := by
  have : atI (a :: b :: c :: l) ((2 : Nat) : Int) = some c := atI_nat rfl
  exact this
theorem ixN_nat {n j : Nat} (h : j < n) : ixN n ((j : Nat) : Int) = some j := by
  unfold ixN
  simp [h]
@[simp] theorem ixn0 {n : Nat} : ixN (n + 1) 0 = some 0 := ixN_nat (j := 0) (by omega)
@[simp] theorem ixn1 {n : Nat} : ixN (n + 1 + 1) 1 = some 1 := ixN_nat (j := 1) (by omega)
@[simp] theorem ixn2 {n : Nat} : ixN (n + 1 + 1 + 1) 2 = some 2 := ixN_nat (j := 2) (by omega)
theorem at_nat {l : List α} {n : Nat} (h : n < l.length) : atI l ((n : Nat) : Int) = some l[n] := atI_nat (List.getElem?_eq_getElem h)
theorem at_of {l : List α} {i : Int} (h0 : 0 ≤ i) (h1 : i < l.length) : ∃ h, atI l i = some (l[i.toNat]'h) := by
  have h2 : i.toNat < l.length := by omega
  refine ⟨h2, ?_⟩
  have : atI l ((i.toNat : Nat) : Int) = some (l[i.toNat]'h2) := atI_nat (List.getElem?_eq_getElem h2)
  rwa [show ((i.toNat : Nat) : Int) = i by omega] at this
theorem at_mem {l : List α} {i : Int} (h0 : 0 ≤ i) (h1 : i < l.length) : ∃ a, a ∈ l ∧ atI l i = some a := by
  obtain ⟨h, e⟩ := at_of h0 h1
  exact ⟨_, List.getElem_mem h, e⟩
/-- the range of a number -/
def natD (i : Nat) : PyData := .int (i : Nat)
theorem rng1_ok {n : Int} (h : 0 ≤ n) (h2 : n ≤ 1000000) : rng1 (.int n) = some ((List.range n.toNat).map natD) := by
  show (if n.toNat ≤ sizeLine ∧ -(2 ^ 62) ≤ n ∧ n < 2 ^ 62 then some (rngD 0 n.toNat) else none) = _
  rw [if_pos ⟨le_line (by omega), by omega, by omega⟩]
  unfold rngD natD
  simp
theorem rng1_nat {n : Nat} (h2 : n ≤ 1000000) : rng1 (.int (n : Nat)) = some ((List.range n).map natD) := by
  rw [rng1_ok (by omega) (by omega)]; rfl
/-! slices -/
theorem cut_take {k : Nat} : cutD xs none (some (k : Nat)) = xs.take k := by
  unfold cutD
  rw [HT.sIx_nat]
  show (xs.drop 0).take (min k xs.length - 0) = _
  rw [List.drop_zero, Nat.sub_zero]
  by_cases h : k ≤ xs.length
  · rw [Nat.min_eq_left h]
  · rw [Nat.min_eq_right (by omega), List.take_length, List.take_of_length_le (by omega)]
theorem cut_drop {k : Nat} : cutD xs (some (k : Nat)) none = xs.drop k := by
  unfold cutD
  rw [HT.sIx_nat]
  show (xs.drop (min k xs.length)).take (xs.length - min k xs.length) = _
  by_cases h : k ≤ xs.length
  · rw [Nat.min_eq_left h, List.take_of_length_le (by rw [List.length_drop]; omega)]
  · rw [Nat.min_eq_right (by omega), List.drop_length, List.drop_eq_nil_iff.mpr (by omega), List.take_nil]
/-! ### comprehensions and loops -/
theorem mapS_map {f : β → Option γ} {g : α → β} : ∀ {l : List α}, mapS (l.map g) f = mapS l fun a => f (g a)
  | [] => rfl
  | a :: l => by show (f (g a)).bind _ = (f (g a)).bind _; rw [mapS_map]
theorem mapS_ok {f : α → Option β} {g : α → β} : ∀ {l : List α}, (∀ a ∈ l, f a = some (g a)) → mapS l f = some (l.map g)
  | [], _ => rfl
  | a :: l, h => by
    show (f a).bind _ = _
    rw [h a (List.mem_cons_self ..), mapS_ok (l := l) fun b hb => h b (List.mem_cons_of_mem _ hb)]; rfl
theorem mapS_of {f : β → Option γ} {m : α → β} {g : α → γ} {l : List α} (h : ∀ a ∈ l, f (m a) = some (g a)) : mapS (l.map m) f = some (l.map g) := by rw [mapS_map]; exact mapS_ok h
theorem filS_map {f : β → Option (Option γ)} {g : α → β} : ∀ {l : List α}, filS (l.map g) f = filS l fun a => f (g a)
  | [] => rfl
  | a :: l => by show (f (g a)).bind _ = (f (g a)).bind _; rw [filS_map]
theorem filS_ok {f : α → Option (Option β)} {p : α → Bool} {g : α → β} : ∀ {l : List α}, (∀ a ∈ l, f a = some (if p a = true then some (g a) else none)) → filS l f = some ((l.filter p).map g)
  | [], _ => rfl
  | a :: l, h => by
    show (f a).bind _ = _
    rw [h a (List.mem_cons_self ..), filS_ok (l := l) fun b hb => h b (List.mem_cons_of_mem _ hb)]
    by_cases hp : p a = true
    · rw [if_pos hp, List.filter_cons_of_pos hp]; rfl
    · rw [if_neg hp, List.filter_cons_of_neg hp]; rfl
theorem filS_of {f : β → Option (Option γ)} {m : α → β} {p : α → Bool} {g : α → γ} {l : List α} (h : ∀ a ∈ l, f (m a) = some (if p a = true then some (g a) else none)) : filS (l.map m) f = some ((l.filter p).map g) := by rw [filS_map]; exact filS_ok h
theorem foldS_map {f : β → σ → Option σ} {g : α → β} : ∀ {l : List α} {s : σ}, foldS (l.map g) f s = foldS l (fun a s => f (g a) s) s
  | [], s => rfl
  | a :: l, s => by show (f (g a) s).bind _ = (f (g a) s).bind _; congr 1; funext s'; exact foldS_map
theorem forS_map {f : β → σ → Option (Out × σ)} {g : α → β} : ∀ {l : List α} {s : σ}, forS (l.map g) f s = forS l (fun a s => f (g a) s) s
  | [], s => rfl
  | a :: l, s => by
    show (f (g a) s).bind _ = (f (g a) s).bind _
    congr 1; funext p
    split <;> first | rfl | exact forS_map
/-- a loop that never leaves, by an invariant -/
theorem foldS_inv {f : α → σ → Option σ} (Inv : Nat → σ → Prop) : ∀ {l : List α} {k : Nat} {s : σ}, Inv k s → (∀ i a s, l[i]? = some a → Inv (k + i) s → ∃ s', f a s = some s' ∧ Inv (k + i + 1) s') → ∃ s', foldS l f s = some s' ∧ Inv (k + l.length) s'
  | [], k, s, h0, _ => ⟨s, rfl, h0⟩
  | a :: l, k, s, h0, hs => by
    obtain ⟨s1, h1, h2⟩ := hs 0 a s rfl h0
    obtain ⟨s', h3, h4⟩ := foldS_inv Inv (l := l) (k := k + 1) h2 fun i b t hb hi => by
      have := hs (i + 1) b t (by simpa using hb) (by rw [show k + (i + 1) = k + 1 + i by omega]; exact hi)
      rw [show k + (i + 1) + 1 = k + 1 + i + 1 by omega] at this
      exact this
    refine ⟨s', ?_, by rw [List.length_cons, show k + (l.length + 1) = k + 1 + l.length by omega]; exact h4⟩
    show (f a s).bind _ = _
    rw [h1]; exact h3
theorem foldS_range {f : PyData → σ → Option σ} (Inv : Nat → σ → Prop) {n : Nat} {s : σ} (h0 : Inv 0 s) (hs : ∀ i s, i < n → Inv i s → ∃ s', f (natD i) s = some s' ∧ Inv (i + 1) s') : ∃ s', foldS ((List.range n).map natD) f s = some s' ∧ Inv n s' := by
  rw [foldS_map]
  obtain ⟨s', h1, h2⟩ := foldS_inv (f := fun a s => f (natD a) s) Inv (l := List.range n) (k := 0) h0 fun i a s ha hi => by
    obtain ⟨hn, rfl⟩ := List.getElem?_eq_some_iff.mp ha
    rw [List.length_range] at hn
    rw [List.getElem_range]
    rw [Nat.zero_add] at hi ⊢
    exact hs i s hn hi
  rw [List.length_range, Nat.zero_add] at h2
  exact ⟨s', h1, h2⟩
theorem forS_inv {f : α → σ → Option (Out × σ)} (Inv : Nat → σ → Prop) : ∀ {l : List α} {k : Nat} {s : σ}, Inv k s → (∀ i a s, l[i]? = some a → Inv (k + i) s → ∃ s', f a s = some (.nx, s') ∧ Inv (k + i + 1) s') → ∃ s', forS l f s = some (.nx, s') ∧ Inv (k + l.length) s'
  | [], k, s, h0, _ => ⟨s, rfl, h0⟩
  | a :: l, k, s, h0, hs => by
    obtain ⟨s1, h1, h2⟩ := hs 0 a s rfl h0
    obtain ⟨s', h3, h4⟩ := forS_inv Inv (l := l) (k := k + 1) h2 fun i b t hb hi => by
      have := hs (i + 1) b t (by simpa using hb) (by rw [show k + (i + 1) = k + 1 + i by omega]; exact hi)
      rw [show k + (i + 1) + 1 = k + 1 + i + 1 by omega] at this
      exact this
    refine ⟨s', ?_, by rw [List.length_cons, show k + (l.length + 1) = k + 1 + l.length by omega]; exact h4⟩
    show (f a s).bind _ = _
    rw [h1]; exact h3
theorem forS_range {f : PyData → σ → Option (Out × σ)} (Inv : Nat → σ → Prop) {n : Nat} {s : σ} (h0 : Inv 0 s) (hs : ∀ i s, i < n → Inv i s → ∃ s', f (natD i) s = some (.nx, s') ∧ Inv (i + 1) s') : ∃ s', forS ((List.range n).map natD) f s = some (.nx, s') ∧ Inv n s' := by
  rw [forS_map]
  obtain ⟨s', h1, h2⟩ := forS_inv (f := fun a s => f (natD a) s) Inv (l := List.range n) (k := 0) h0 fun i a s ha hi => by
    obtain ⟨hn, rfl⟩ := List.getElem?_eq_some_iff.mp ha
    rw [List.length_range] at hn
    rw [List.getElem_range]
    rw [Nat.zero_add] at hi ⊢
    exact hs i s hn hi
  rw [List.length_range, Nat.zero_add] at h2
  exact ⟨s', h1, h2⟩
/-- a loop without a state that never leaves -/
theorem forS_all {f : α → Unit → Option (Out × Unit)} {l : List α} (h : ∀ a ∈ l, f a () = some (.nx, ())) : forS l f () = some (.nx, ()) := by
  induction l with
  | nil => rfl
  | cons a l ih =>
    show (f a ()).bind _ = _
    rw [h a (List.mem_cons_self ..)]
    exact ih fun b hb => h b (List.mem_cons_of_mem _ hb)
/-- what a loop leaves with: an answer, or nothing -/
def rtO : Option PyData → Out
  | some d => .rt d
  | none => .nx
@[simp] theorem thenS_rtO {o : Option PyData} {s : σ} {Kk : σ → Option β} {R : PyData → σ → Option β} : thenS (rtO o, s) Kk R = o.elim (Kk s) fun d => R d s := by cases o <;> rfl
/-- a loop that returns at the first that passes -/
theorem forS_find {f : α → Unit → Option (Out × Unit)} (p : α → Bool) (g : α → PyData) : ∀ {l : List α}, (∀ a ∈ l, f a () = some (if p a = true then .rt (g a) else .nx, ())) → forS l f () = some (rtO ((l.find? p).map g), ())
  | [], _ => rfl
  | a :: l, h => by
    show (f a ()).bind _ = _
    rw [h a (List.mem_cons_self ..)]
    by_cases hp : p a = true
    · rw [List.find?_cons_of_pos hp, if_pos hp]; rfl
    · rw [List.find?_cons_of_neg hp, if_neg hp]
      exact forS_find p g fun b hb => h b (List.mem_cons_of_mem _ hb)
/-! enumerate, zip -/
theorem enum_map (f : α → PyData) : ∀ (k : Nat) (l : List α), enumD k (l.map f) = (l.zipIdx k).map fun p => .tuple [.int (p.2 : Nat), f p.1]
  | _, [] => rfl
  | k, x :: l => by
    rw [List.map_cons, List.zipIdx_cons, List.map_cons]
    unfold enumD
    rw [enum_map f (k + 1) l]
end
/-! ### what repr shows is small: a weight that adds up -/
mutual
def wt : PyData → Nat
  | .none => 20
  | .bool _ => 20
  | .int i => 64 * i.natAbs.log2 + 20
  | .str x => (reprText x).length + 20
  | .list xs => wtL xs + 20
  | .tuple xs => wtL xs + 20
  | .dict kvs => (PyData.dict kvs).shown.length + 20
def wtL : List PyData → Nat
  | [] => 0
  | x :: xs => wt x + 2 + wtL xs
end
theorem shownAll_map : ∀ xs : List PyData, PyData.shownAll xs = xs.map PyData.shown
  | [] => by unfold PyData.shownAll; rfl
  | x :: xs => by unfold PyData.shownAll; rw [shownAll_map xs]; rfl
def pile (ts : List Str) : Nat := (ts.map fun t => t.length + 2).sum
theorem textFrom_le : ∀ (ts : List Str) (k : Nat) (acc : Str), (textFrom k acc ts).length ≤ acc.length + pile ts
  | [], k, acc => Nat.le_refl _
  | t :: r, k, acc => by
    have ih := textFrom_le r (k + 1) (acc ++ (if k > 0 then ", " else "" : String) ++ t)
    have e : (acc ++ (if k > 0 then ", " else "" : String) ++ t).length = acc.length + (if k > 0 then 2 else 0) + t.length := by
      rw [strLen_append, strLen_append]
      split <;> rfl
    have : pile (t :: r) = t.length + 2 + pile r := rfl
    have h2 : (if k > 0 then 2 else 0) ≤ 2 := by split <;> omega
    show (textFrom (k + 1) _ r).length ≤ _
    omega
theorem join_le : ∀ ts : List Str, (Str.join ", " ts).length ≤ pile ts
  | [] => Nat.le_refl _
  | [x] => by show x.length ≤ x.length + 2 + 0; omega
  | x :: y :: r => by
    have ih := join_le (y :: r)
    show (x ++ ", " ++ Str.join ", " (y :: r)).length ≤ x.length + 2 + pile (y :: r)
    rw [strLen_append, strLen_append]
    have : ((", " : String) : Str).length = 2 := rfl
    omega
theorem int_shown (i : Int) : (PyData.int i).shown.length ≤ i.natAbs.log2 + 20 := by
  have hp : i.natAbs < 10 ^ (i.natAbs.log2 + 1) := by
    have : i.natAbs < 2 ^ (i.natAbs.log2 + 1) := by
      by_cases z : i.natAbs = 0
      · rw [z]; decide
      · exact Nat.lt_log2_self
    exact Nat.lt_of_lt_of_le this (Nat.pow_le_pow_left (by decide) _)
  have := int_text_length_le10 (k := i.natAbs.log2 + 1) (by omega) hp
  show (Str.ofString (toString i)).length ≤ _
  rw [ofString_length]
  omega
mutual
theorem shown_le : ∀ d : PyData, d.shown.length ≤ wt d
  | .none => by show (4 : Nat) ≤ 20; decide
  | .bool b => by cases b <;> decide
  | .int i => by rw [wt]; have := int_shown i; omega
  | .str x => by rw [wt, PyData.shown]; omega
  | .list xs => by
    rw [wt, PyData.shown, listText, strLen_append]
    have := textFrom_le (PyData.shownAll xs) 0 "["
    have e1 : ((("[" : String) : Str)).length = 1 := rfl
    have e2 : ((("]" : String) : Str)).length = 1 := rfl
    have := shownAll_le xs
    omega
  | .tuple xs => by
    rw [wt, PyData.shown, tupleText, strLen_append, strLen_append]
    have := join_le (PyData.shownAll xs)
    have e1 : ((("(" : String) : Str)).length = 1 := rfl
    have e2 : (((if (PyData.shownAll xs).length == 1 then ",)" else ")" : String) : Str)).length ≤ 2 := by split <;> decide
    have := shownAll_le xs
    omega
  | .dict kvs => by rw [wt]; omega
theorem shownAll_le : ∀ xs : List PyData, pile (PyData.shownAll xs) ≤ wtL xs
  | [] => by rw [wtL, PyData.shownAll]; exact Nat.le_refl _
  | x :: xs => by
    rw [wtL, PyData.shownAll]
    have h1 := shown_le x
    have h2 := shownAll_le xs
    show x.shown.length + 2 + pile (PyData.shownAll xs) ≤ _
    omega
end
/-- small data: n deep, s heavy -/
structure Vl (n s : Nat) (d : PyData) : Prop where
  sh : d.showable = true
  dp : d.depth ≤ n
  wt : wt d ≤ s
structure VlL (n s : Nat) (xs : List PyData) : Prop where
  sh : PyData.showableAll xs = true
  dp : PyData.depthAll xs ≤ n
  wt : wtL xs ≤ s
section
variable {n s t n' s' : Nat} {d x : PyData} {xs ys : List PyData}
theorem Vl.mono (h : Vl n s d) (a : n ≤ n') (b : s ≤ s') : Vl n' s' d := ⟨h.sh, Nat.le_trans h.dp a, Nat.le_trans h.wt b⟩
theorem VlL.mono (h : VlL n s xs) (a : n ≤ n') (b : s ≤ s') : VlL n' s' xs := ⟨h.sh, Nat.le_trans h.dp a, Nat.le_trans h.wt b⟩
theorem VlL.nil : VlL n s [] := ⟨by rw [PyData.showableAll], by rw [PyData.depthAll]; omega, by rw [wtL]; omega⟩
theorem VlL.cons (h : Vl n s x) (r : VlL n t xs) : VlL n (s + 2 + t) (x :: xs) :=
  ⟨by rw [PyData.showableAll, h.sh, r.sh]; rfl, by rw [PyData.depthAll]; exact Nat.max_le.mpr ⟨h.dp, r.dp⟩, by rw [wtL]; have := h.wt; have := r.wt; omega⟩
theorem VlL.head (h : VlL n s (x :: xs)) : Vl n s x := by
  obtain ⟨a, b, c⟩ := h
  rw [PyData.showableAll, Bool.and_eq_true] at a
  rw [PyData.depthAll] at b
  rw [wtL] at c
  exact ⟨a.1, Nat.le_trans (Nat.le_max_left _ _) b, by omega⟩
theorem VlL.tail (h : VlL n s (x :: xs)) : VlL n s xs := by
  obtain ⟨a, b, c⟩ := h
  rw [PyData.showableAll, Bool.and_eq_true] at a
  rw [PyData.depthAll] at b
  rw [wtL] at c
  exact ⟨a.2, Nat.le_trans (Nat.le_max_right _ _) b, by omega⟩
theorem VlL.split (h : VlL n s (x :: xs)) : ∃ s1 s2, Vl n s1 x ∧ VlL n s2 xs ∧ s1 + 2 + s2 ≤ s := by
  have c := h.wt
  rw [wtL] at c
  exact ⟨DL.wt x, DL.wtL xs, ⟨h.head.sh, h.head.dp, Nat.le_refl _⟩, ⟨h.tail.sh, h.tail.dp, Nat.le_refl _⟩, c⟩
theorem VlL.mem : ∀ {xs : List PyData}, VlL n s xs → x ∈ xs → Vl n s x
  | y :: ys, h, m => by
    rcases List.mem_cons.mp m with rfl | m
    · exact h.head
    · exact VlL.mem h.tail m
theorem VlL.append : ∀ {xs : List PyData} {s : Nat}, VlL n s xs → VlL n t ys → VlL n (s + t) (xs ++ ys)
  | [], s, _, r => r.mono (Nat.le_refl _) (by omega)
  | x :: xs, s, h, r => by
    obtain ⟨s1, s2, h1, h2, e⟩ := h.split
    exact (VlL.cons h1 (VlL.append h2 r)).mono (Nat.le_refl _) (by omega)
theorem VlL.drop : ∀ {xs : List PyData} (k : Nat), VlL n s xs → VlL n s (xs.drop k)
  | xs, 0, h => h
  | [], k + 1, h => h
  | x :: xs, k + 1, h => VlL.drop (xs := xs) k h.tail
theorem VlL.take : ∀ {xs : List PyData} {s : Nat} (k : Nat), VlL n s xs → VlL n s (xs.take k)
  | xs, s, 0, h => by rw [List.take_zero]; exact .nil
  | [], s, k + 1, h => h
  | x :: xs, s, k + 1, h => by
    obtain ⟨s1, s2, h1, h2, e⟩ := h.split
    exact (VlL.cons h1 (VlL.take (xs := xs) k h2)).mono (Nat.le_refl _) (by omega)
theorem VlL.reverse : ∀ {xs : List PyData} {s : Nat}, VlL n s xs → VlL n s xs.reverse
  | [], s, h => h
  | x :: xs, s, h => by
    obtain ⟨s1, s2, h1, h2, e⟩ := h.split
    rw [List.reverse_cons]
    exact ((VlL.reverse h2).append (VlL.cons h1 (VlL.nil (s := 0)))).mono (Nat.le_refl _) (by omega)
theorem VlL.tuple (h : VlL n s xs) : Vl (n + 1) (s + 20) (.tuple xs) := ⟨by rw [PyData.showable]; exact h.sh, by rw [PyData.depth]; have := h.dp; omega, by rw [DL.wt]; have := h.wt; omega⟩
theorem VlL.list (h : VlL n s xs) : Vl (n + 1) (s + 20) (.list xs) := ⟨by rw [PyData.showable]; exact h.sh, by rw [PyData.depth]; have := h.dp; omega, by rw [DL.wt]; have := h.wt; omega⟩
theorem Vl.tup (h : Vl (n + 1) s (.tuple xs)) : VlL n s xs := ⟨by have := h.sh; rwa [PyData.showable] at this, by have := h.dp; rw [PyData.depth] at this; omega, by have := h.wt; rw [DL.wt] at this; omega⟩
theorem Vl.tup0 (h : Vl n s (.tuple xs)) : VlL n s xs := ⟨by have := h.sh; rwa [PyData.showable] at this, by have := h.dp; rw [PyData.depth] at this; omega, by have := h.wt; rw [DL.wt] at this; omega⟩
theorem VlL.len : ∀ {xs : List PyData} {s : Nat}, VlL n s xs → xs.length ≤ s
  | [], _, _ => Nat.zero_le _
  | x :: xs, s, h => by
    obtain ⟨s1, s2, _, h2, e⟩ := h.split
    have := VlL.len h2
    rw [List.length_cons]; omega
theorem vl_bool {b : Bool} : Vl n (20 + s) (.bool b) := ⟨rfl, Nat.zero_le _, by rw [DL.wt]; omega⟩
theorem gRepr_ok (h : Vl n s d) (hn : n ≤ 58) (hs : s ≤ 16000000) : gRepr d = some (.str d.shown) := by
  unfold gRepr
  rw [if_pos ⟨h.sh, Nat.le_trans h.dp hn, Nat.le_trans (shown_le d) (Nat.le_trans h.wt (Nat.le_trans hs (by decide)))⟩]
theorem vl_map {α : Type} {f : α → PyData} {l : List α} {c : Nat} (h : ∀ a ∈ l, Vl n c (f a)) : VlL n (l.length * (c + 2)) (l.map f) := by
  induction l with
  | nil => exact .nil
  | cons a l ih =>
    rw [List.map_cons]
    refine (VlL.cons (h a (List.mem_cons_self ..)) (ih fun b hb => h b (List.mem_cons_of_mem _ hb))).mono (Nat.le_refl _) ?_
    rw [List.length_cons, Nat.add_mul]; omega
end
end DL

namespace DL
open PySem L2 PySem.Spec

/-! ### loops and lists, plainly, second part -/
section
variable {i j : Int} {b c : Bool} {x y z d : PyData} {xs ys zs : List PyData} {s t : Str} {α β γ σ : Type}
theorem forS_findSome {f : α → Unit → Option (Out × Unit)} (g : α → Option PyData) : ∀ {l : List α}, (∀ a ∈ l, f a () = some (rtO (g a), ())) → forS l f () = some (rtO (l.findSome? g), ())
  | [], _ => rfl
  | a :: l, h => by
    show (f a ()).bind _ = _
    rw [h a (List.mem_cons_self ..)]
    cases e : g a with
    | some d => rw [List.findSome?_cons, e]; rfl
    | none =>
      rw [List.findSome?_cons, e]
      exact forS_findSome g fun b hb => h b (List.mem_cons_of_mem _ hb)
theorem whS_step {n : Nat} {c : σ → Option Bool} {f : σ → Option σ} {s s' : σ} (h : c s = some true) (h2 : f s = some s') : whS (n + 1) c f s = whS n c f s' := by
  show (c s).bind _ = _
  rw [h]
  show (f s).bind _ = _
  rw [h2]; rfl
theorem whS_end {n : Nat} {c : σ → Option Bool} {f : σ → Option σ} {s : σ} (h : c s = some false) : whS (n + 1) c f s = some s := by
  show (c s).bind _ = _
  rw [h]; rfl
theorem rng2_nat {m n : Nat} (h : n ≤ 1000000) (h2 : m ≤ 1000000) : rng2 (.int (m : Nat)) (.int (n : Nat)) = some ((List.range' m (n - m)).map natD) := by
  simp only [rng2]
  rw [if_pos ⟨le_line (by omega), by omega, by omega, by omega, by omega⟩, show ((n : Int) - m).toNat = n - m by omega]
  unfold rngD
  rw [List.range'_eq_map_range, List.map_map]
  exact congrArg some (List.map_congr_left fun a _ => by show PyData.int _ = PyData.int _; simp)
theorem plain_ints {l : List Int} : PyData.plainAll (l.map PyData.int) = true := plain_map fun _ => rfl
theorem depth_ints {l : List Int} : PyData.depthAll (l.map PyData.int) ≤ 60 := depth_map fun _ => Nat.zero_le _
theorem any_ints {l : List Int} : (l.map PyData.int).any (fun y => PyData.eqv y (.int i)) = decide (i ∈ l) := by
  induction l with
  | nil => simp
  | cons a l ih =>
    rw [List.map_cons, List.any_cons, ih, eqv_int]
    by_cases h : a = i
    · subst h
      rw [decide_eq_true rfl, Bool.true_or, decide_eq_true (List.mem_cons_self ..)]
    · rw [decide_eq_false h, Bool.false_or]
      have : (i ∈ a :: l) ↔ i ∈ l := by rw [List.mem_cons]; exact ⟨fun q => q.resolve_left fun z => h z.symm, .inr⟩
      rw [decide_eq_decide.mpr this]
theorem xNotInL {l : List Int} : gNotIn (.int i) (.list (l.map .int)) = some (.bool (!decide (i ∈ l))) := by
  show (if _ then _ else _) = _
  rw [if_pos (by rw [plain_ints, decide_eq_true (Nat.le_trans (Nat.min_le_left _ _) depth_ints)]; rfl), any_ints]
theorem xPop {n : Nat} (h : n < xs.length) (h2 : xs.length ≤ 1000000) : gPopAt (.list xs) (.int (n : Nat)) = some (xs[n], .list (xs.eraseIdx n)) := by
  simp only [gPopAt]
  rw [if_pos ⟨by omega, by omega⟩, ixN_nat h]
  show (xs[n]?).bind _ = _
  rw [List.getElem?_eq_getElem h]; rfl
theorem int_nat {r : Int} (h : 0 ≤ r) : ∃ k : Nat, r = (k : Nat) := ⟨r.toNat, by omega⟩
@[simp] theorem ints_map {l : List Int} : intsOf (l.map .int) = some l := by
  induction l with
  | nil => rfl
  | cons a l ih => show (intsOf (l.map .int)).map (a :: ·) = _; rw [ih]; rfl
theorem xSortSetL {l : List Int} (h : l.length ≤ 3000) : gSortSet (.list (l.map .int)) = some (.list ((sortSet l).map .int)) := by
  show ((intsOf (l.map .int)).bind fun ns => if ns.length < 4000 then some ns else none).map _ = _
  rw [ints_map]
  show (if l.length < 4000 then some l else none).map _ = _
  rw [if_pos (by omega)]; rfl
theorem xSortSetT {l : List Int} (h : l.length ≤ 3000) : gSortSet (.tuple (l.map .int)) = some (.list ((sortSet l).map .int)) := xSortSetL h
theorem sortSet_len {l : List Int} : (sortSet l).length ≤ l.length := by
  induction l with
  | nil => exact Nat.le_refl _
  | cons a l ih =>
    have : ∀ (x : Int) (l : List Int), (insU x l).length ≤ l.length + 1 := fun x l => by
      induction l with
      | nil => exact Nat.le_refl _
      | cons y l ih =>
        unfold insU
        split
        · exact Nat.le_refl _
        · split
          · exact Nat.le_succ _
          · simp only [List.length_cons]; omega
    have := this a (sortSet l)
    rw [sortSet, List.length_cons]; omega
end
end DL

namespace DL
open PySem L2 PySem.Spec
section
variable {tw : CT} {j : Nat} {gg : PyData → Option PyData} {f : Ef} {e : En}
@[simp] theorem rAsgE1 : sAsgE1 tw j gg f e = (f e).bind fun p => (gIsOk tw p.1).bind fun w => (asB w).bind fun b => if b = true then (gUn p.1).bind fun d => (gg d).bind fun r => some (.nx, p.2.set j r) else some (.rt p.1, p.2) := rfl
end
end DL

namespace DL
open PySem L2 PySem.Spec
@[simp] theorem stb_e {a : Addr} {d : Option Addr} {fl : List (Str × V)} {c : Str} : stb (.e a d fl c) = false := rfl
section
variable {tw : CT} {j k : Nat} {call : Ef} {e : En} {g : Gq}
@[simp] theorem rAppE : sAppE tw j k call e = (call e).bind fun p => (gIsOk tw p.1).bind fun w => (asB w).bind fun b => if b = true then (gUn p.1).bind fun d => (gAppF k (e.getD j .none) d).bind fun d2 => some (.nx, p.2.set j d2) else some (.rt p.1, p.2) := rfl
@[simp] theorem rLstP : eLstP g e = (g e).bind fun d => (gList d).bind fun r => some (r, e) := rfl
end
end DL

namespace LK
open PySem L2 PySem.Spec DL
/-! ### the data's side -/
/-- _law_deck: 0 _law_script, 1 _law_cell -/
def E__law_deck_1 : Ef := (e1 gAbs (eVar 1))
def S__law_deck : Sf := (sRet (eLst (lCons (eLc (iSeq (eSlQ 0 none (some 63))) [1] (gNm 1) bYes E__law_deck_1) (lCons (eC (.int 0)) (lCons (eC (.int 0)) (lCons (e2 gAdd (eC (.int 11)) (e2 gMul (eC (.int 37)) (eLenQ 0))) lNil))))))
def F__law_deck : DFn := runF S__law_deck [.q] 1
/-- _law_next: 0 _law_deck_here, 1 _law_many, 2 _law_cell, 3 _law_digit -/
def B__law_next_1 : Sf := (sPost [2] [1, 2, 3]
  (sSeq (sAsg 2 (ePopAt (gSub1 (qVar 0) (qC (.int 0))) (pSub1 (qVar 0) (qC (.int 0)) (pVar 0)) (qC (.int 0))))
  (sSeq (sSet (qVar 0) (pVar 0) (qC (.int 3)) (e2 gMod (e2 gAdd (e2 gAdd (e2 gMul (eQ (q2 gIx (qVar 0) (qC (.int 3)))) (eC (.int 48271))) (eVar 2)) (eC (.int 7))) (eC (.int 2147483647))))
  (sSet (qVar 0) (pVar 0) (qC (.int 1)) (e2 gMul (eVar 2) (e1 gInt (e2 gGe (eVar 2) (e2 gPow (eC (.int 10)) (eC (.int 18))))))))))
def W__law_next_1 : Bf := (bAnd (bQT (q2 gEq (q2 gIx (qVar 0) (qC (.int 1))) (qC (.int 0)))) (bQT (q2 gNe (q2 gIx (qVar 0) (qC (.int 0))) (qC (.list [])))))
def R__law_next_1 : Sf := (sRet (e2 gMod (e2 gFdiv (e2 gMod (e2 gMul (eQ (q2 gIx (qVar 0) (qC (.int 3)))) (eQ (q2 gIx (qVar 0) (qC (.int 3))))) (eC (.int 2147483629))) (eC (.int 8))) (eVar 1)))
def S__law_next : Sf := (sSeq (sPre [2] (sWh fuel W__law_next_1
    B__law_next_1))
  (sSeq (sIf (bQT (q2 gGt (q2 gIx (qVar 0) (qC (.int 1))) (qC (.int 0))))
    (sSeq (sAsg 3 (e2 gMod (eQ (q2 gIx (qVar 0) (qC (.int 1)))) (eVar 1)))
  (sSeq (sSet (qVar 0) (pVar 0) (qC (.int 1)) (e2 gFdiv (eQ (q2 gIx (qVar 0) (qC (.int 1)))) (eVar 1)))
  (sRet (eVar 3))))
    sNil)
  (sSeq (sSet (qVar 0) (pVar 0) (qC (.int 2)) (e2 gAdd (eQ (q2 gIx (qVar 0) (qC (.int 2)))) (eC (.int 1))))
  (sSeq (sSet (qVar 0) (pVar 0) (qC (.int 3)) (e2 gMod (e2 gAdd (e2 gAdd (e2 gMul (eQ (q2 gIx (qVar 0) (qC (.int 3)))) (eC (.int 69621))) (e2 gMul (eC (.int 30011)) (eQ (q2 gIx (qVar 0) (qC (.int 2)))))) (eC (.int 12345))) (eC (.int 2147483647))))
  R__law_next_1))))
def F__law_next : DFn := runF S__law_next [(.r [(.l .s), .s, .s, .s]), .s] 2
/-- _law_shuffled: 0 _law_deck_here, 1 _law_items, 2 _law_left, 3 _law_found -/
def B__law_shuffled_1 : Sf := (sPost [] [1, 2, 3]
  (sDrop (eApp 3 (ePopG 2 (eCallL F__law_next 0 0 (lCons eLend (lCons (eQ (q1 gLen (qVar 2))) lNil)))))))
def W__law_shuffled_1 : Bf := (bQT (q2 gNe (qVar 2) (qC (.list []))))
def S__law_shuffled : Sf := (sSeq (sAsg 2 (e1 gList (eVar 1)))
  (sSeq (sAsg 3 (eLst lNil))
  (sSeq (sPre [] (sWh fuel W__law_shuffled_1
    B__law_shuffled_1))
  (sRet (eVar 3)))))
def F__law_shuffled : DFn := runF S__law_shuffled [(.r [(.l .s), .s, .s, .s]), .s] 2
/-- _law_planned: 0 _law_deck_here, 1 _law_most, 2 _law_people, 3 _law_teachers, 4 _law_groups, 5 _law_rows, 6 _law_hour, 7 _law_left, 8 _law_right, 9 _law_teacher, 10 _law_group, 11 _law_lessons -/
def B__law_planned_1 : Sf := (sPost [] [1, 2, 3, 4, 5, 6, 7, 8, 9, 10, 11]
  (sIf (bT (e2 gGt (eCallL F__law_next 0 0 (lCons eLend (lCons (eC (.int 5)) lNil))) (eC (.int 0))))
    (sDrop (eApp 5 (eTup (lCons (eVar 9) (lCons (eVar 10) (lCons (eVar 6) lNil))))))
    sNil))
def B__law_planned_2 : Sf := (sPost [7, 8] [1, 2, 3, 4, 5, 6, 7, 8, 9, 10, 11]
  (sSeq (sPar 7 8 (lCons (eCallL F__law_shuffled 0 0 (lCons eLend (lCons (eLsR (iR1 (eVar 3))) lNil))) (lCons (eCallL F__law_shuffled 0 0 (lCons eLend (lCons (eLsR (iR1 (eVar 4))) lNil))) lNil)))
  (sFor (iFg [] (iZp (eVar 7) (eVar 8))) (gTp 2 (gsCons (gNm 9) (gsCons (gNm 10) gsNil)))
    B__law_planned_1)))
def E__law_planned_1 : Ef := (eTup (lCons (eVar 9) (lCons (eVar 10) lNil)))
def E__law_planned_2 : Ef := (eVar 6)
def S__law_planned : Sf := (sSeq (sAsg 2 (e2 gIx (eLst (lCons (eC (.int 1)) (lCons (eC (.int 2)) (lCons (eC (.int 3)) (lCons (eC (.int 4)) (lCons (eC (.int 8)) lNil)))))) (eCallL F__law_next 0 0 (lCons eLend (lCons (eC (.int 5)) lNil)))))
  (sSeq (sPar3 3 4 5 (lCons (e2 gAdd (eC (.int 1)) (eCallL F__law_next 0 0 (lCons eLend (lCons (eVar 2) lNil)))) (lCons (e2 gAdd (eC (.int 1)) (eCallL F__law_next 0 0 (lCons eLend (lCons (eVar 2) lNil)))) (lCons (eLst lNil) lNil))))
  (sSeq (sFor (iFg [7, 8] (iR1 (e2 gAdd (eC (.int 1)) (eCallL F__law_next 0 0 (lCons eLend (lCons (eC (.int 6)) lNil)))))) (gNm 6)
    B__law_planned_2)
  (sSeq (sAsg 5 (eSl gSlL (eCallL F__law_shuffled 0 0 (lCons eLend (lCons (eVar 5) lNil))) oNone (oSome (eVar 1))))
  (sSeq (sAsg 11 (e1 gTuple (eLc (iSeq (eVar 5)) [9, 10, 6] (gTp 3 (gsCons (gNm 9) (gsCons (gNm 10) (gsCons (gNm 6) gsNil)))) bYes E__law_planned_1)))
  (sRet (eLst (lCons (eTup (lCons (eVar 3) (lCons (eVar 4) (lCons (eVar 11) lNil)))) (lCons (e1 gTuple (eLc (iSeq (eVar 5)) [9, 10, 6] (gTp 3 (gsCons (gNm 9) (gsCons (gNm 10) (gsCons (gNm 6) gsNil)))) bYes E__law_planned_2)) lNil)))))))))
def F__law_planned : DFn := runF S__law_planned [(.r [(.l .s), .s, .s, .s]), .s] 10
/-- _law_numbers: 0 _law_schedule, 1 _law_hour, 2 _law_one_here -/
def T__law_numbers_1 : Bf := (bT (e2 gEq (eVar 2) (eVar 1)))
def E__law_numbers_1 : Ef := (eVar 2)
def E__law_numbers_2 : Ef := (e1 gLen (eLc (iSeq (eVar 0)) [2] (gNm 2) T__law_numbers_1 E__law_numbers_1))
def S__law_numbers : Sf := (sRet (eLc (iSeq (e1 gSortSet (eVar 0))) [1] (gNm 1) bYes E__law_numbers_2))
def F__law_numbers : DFn := runF S__law_numbers [.s] 2
/-- _law_one: 0 _law_deck_here, 1 _law_items -/
def S__law_one : Sf := (sRet (e2 gIx (eVar 1) (eCallL F__law_next 0 0 (lCons eLend (lCons (e1 gLen (eVar 1)) lNil)))))
def F__law_one : DFn := runF S__law_one [(.r [(.l .s), .s, .s, .s]), .s] 0
/-- _law_rooms: 0 _law_deck_here -/
def S__law_rooms : Sf := (sRet (e2 gIx (eLst (lCons (eC (.int 1)) (lCons (eC (.int 2)) (lCons (eC (.int 3)) (lCons (e2 gAdd (eC (.int 1)) (eCallL F__law_next 0 0 (lCons eLend (lCons (eC (.int 16)) lNil)))) (lCons (e2 gPow (eC (.int 10)) (eC (.int 12))) (lCons (e2 gPow (eC (.int 10)) (eC (.int 29))) lNil))))))) (eCallL F__law_next 0 0 (lCons eLend (lCons (eC (.int 6)) lNil)))))
def F__law_rooms : DFn := runF S__law_rooms [(.r [(.l .s), .s, .s, .s])] 0
/-- _law_are_rivals: 0 _law_roster, 1 _law_one_here, 2 _law_other, 3 _law_first, 4 _law_second -/
def S__law_are_rivals : Sf := (sSeq (sPar 3 4 (lCons (e2 gIx (e2 gIx (eVar 0) (eC (.int 2))) (eVar 1)) (lCons (e2 gIx (e2 gIx (eVar 0) (eC (.int 2))) (eVar 2)) lNil)))
  (sRet (eAnd (e2 gNe (eVar 1) (eVar 2)) (eOr (e2 gEq (e2 gIx (eVar 3) (eC (.int 0))) (e2 gIx (eVar 4) (eC (.int 0)))) (e2 gEq (e2 gIx (eVar 3) (eC (.int 1))) (e2 gIx (eVar 4) (eC (.int 1))))))))
def F__law_are_rivals : DFn := runF S__law_are_rivals [.s, .s, .s] 2
/-- _law_compact: 0 _law_deck_here, 1 _law_roster, 2 _law_found, 3 _law_lesson, 4 _law_taken, 5 _law_k, 6 _law_hour -/
def T__law_compact_1 : Bf := (bOf (eCall F__law_are_rivals (lCons (eVar 1) (lCons (eVar 5) (lCons (eVar 3) lNil)))))
def E__law_compact_1 : Ef := (e2 gIx (eVar 2) (eVar 5))
def T__law_compact_2 : Bf := (bT (e2 gNotIn (eVar 6) (eVar 4)))
def E__law_compact_2 : Ef := (eVar 6)
def B__law_compact_1 : Sf := (sPost [3, 4] [1, 2, 3, 4, 5, 6]
  (sSeq (sAsg 4 (eLc (iR1 (eVar 3)) [5] (gNm 5) T__law_compact_1 E__law_compact_1))
  (sAsg 2 (e2 gAdd (eVar 2) (eTup (lCons (e1 gMin (eLc (iR1 (eC (.int 40))) [6] (gNm 6) T__law_compact_2 E__law_compact_2)) lNil))))))
def S__law_compact : Sf := (sSeq (sAsg 2 (eTup lNil))
  (sSeq (sFor (iFg [3, 4] (iR1 (e1 gLen (e2 gIx (eVar 1) (eC (.int 2)))))) (gNm 3)
    B__law_compact_1)
  (sRet (eVar 2))))
def F__law_compact : DFn := runF S__law_compact [(.r [(.l .s), .s, .s, .s]), .s] 5
/-- _law_spread: 0 _law_deck_here, 1 _law_schedule, 2 _law_step, 3 _law_names, 4 _law_k, 5 _law_hour -/
def E__law_spread_1 : Ef := (e2 gMul (eVar 4) (eVar 2))
def E__law_spread_2 : Ef := (e2 gIx (eVar 3) (eVar 5))
def S__law_spread : Sf := (sSeq (sAsg 2 (e2 gIx (eLst (lCons (eC (.int 1)) (lCons (eC (.int 2)) (lCons (eC (.int 1000)) (lCons (eC (.int 50000)) lNil))))) (eCallL F__law_next 0 0 (lCons eLend (lCons (eC (.int 4)) lNil)))))
  (sSeq (sAsg 3 (eCallL F__law_shuffled 0 0 (lCons eLend (lCons (eLc (iR1 (eC (.int 8))) [4] (gNm 4) bYes E__law_spread_1) lNil))))
  (sRet (e1 gTuple (eLc (iSeq (eVar 1)) [5] (gNm 5) bYes E__law_spread_2)))))
def F__law_spread : DFn := runF S__law_spread [(.r [(.l .s), .s, .s, .s]), .s] 4
/-- _law_reasons: 0 _law_roster, 1 _law_found, 2 _law_side, 3 _law_people, 4 _law_person -/
def E__law_reasons_1 : Ef := (eTup (lCons (eVar 2) (lCons (eVar 4) lNil)))
def B__law_reasons_1 : Sf := (sPost [2, 3] [0, 1, 2, 3, 4]
  (sDrop (eExt 1 (eLc (iR1 (e2 gAdd (eVar 3) (eC (.int 1)))) [4] (gNm 4) bYes E__law_reasons_1))))
def S__law_reasons : Sf := (sSeq (sAsg 1 (eLst (lCons (eTup (lCons (eC (.str "rooms")) lNil)) (lCons (eTup (lCons (eC (.str "none")) lNil)) lNil))))
  (sSeq (sFor (iFg [2, 3] (iZp (eTup (lCons (eC (.str "teacher")) (lCons (eC (.str "group")) lNil))) (eSl gSl (eVar 0) oNone (oSome (eC (.int 2)))))) (gTp 2 (gsCons (gNm 2) (gsCons (gNm 3) gsNil)))
    B__law_reasons_1)
  (sRet (eVar 1))))
def F__law_reasons : DFn := runF S__law_reasons [.s] 4
/-- _law_odd: 0 _law_deck_here, 1 _law_some -/
def S__law_odd : Sf := (sSeq (sAsg 1 (eLst (lCons (eC .none) (lCons (eC (.bool true)) (lCons (eC (.bool false)) (lCons (eC (.int 0)) (lCons (eC (.int 1)) (lCons (e1 gNeg (eC (.int 1))) (lCons (eC (.int 2)) (lCons (e2 gAdd (e2 gPow (eC (.int 10)) (eC (.int 6))) (eC (.int 1))) (lCons (e2 gPow (eC (.int 10)) (eC (.int 29))) (lCons (eC (.str "")) (lCons (eC (.str "none")) (lCons (eC (.str "rooms")) (lCons (eC (.str "teacher")) (lCons (eC (.str "group")) (lCons (eTup lNil) (lCons (eTup (lCons (eC (.int 0)) lNil)) lNil))))))))))))))))))
  (sSeq (sAsg 1 (e2 gAdd (eVar 1) (eLst (lCons (eLst lNil) (lCons (eC (.dict [])) (lCons (eLst (lCons (eC (.int 0)) lNil)) (lCons (eC (.dict [(.str "a", .int 1)])) (lCons (eTup (lCons (eC (.bool true)) lNil)) (lCons (eTup (lCons (eTup lNil) (lCons (eTup lNil) lNil))) (lCons (eTup (lCons (eTup lNil) (lCons (eTup (lCons (eC (.str "none")) lNil)) lNil))) (lCons (eTup (lCons (eTup lNil) lNil)) (lCons (eTup (lCons (eC (.str "rooms")) lNil)) lNil))))))))))))
  (sRet (e2 gIx (eVar 1) (eCallL F__law_next 0 0 (lCons eLend (lCons (eC (.int 25)) lNil)))))))
def F__law_odd : DFn := runF S__law_odd [(.r [(.l .s), .s, .s, .s])] 1
/-- _law_changed: 0 _law_deck_here, 1 _law_value, 2 _law_spot, 3 _law_way -/
def S__law_changed (Fr : DFn) : Sf := (sSeq (sIf (bAnd (bOf (e1 (gIsa PyData.isTuple) (eVar 1))) (bAnd (bT (e2 gNe (eVar 1) (eTup lNil))) (bT (e2 gGt (eCallL F__law_next 0 0 (lCons eLend (lCons (eC (.int 5)) lNil))) (eC (.int 0))))))
    (sSeq (sAsg 2 (eCallL F__law_next 0 0 (lCons eLend (lCons (e1 gLen (eVar 1)) lNil))))
  (sRet (e2 gAdd (e2 gAdd (eSl gSl (eVar 1) oNone (oSome (eVar 2))) (eTup (lCons (eCallL Fr 0 0 (lCons eLend (lCons (e2 gIx (eVar 1) (eVar 2)) lNil))) lNil))) (eSl gSl (eVar 1) (oSome (e2 gAdd (eVar 2) (eC (.int 1)))) oNone))))
    sNil)
  (sSeq (sAsg 3 (eCallL F__law_next 0 0 (lCons eLend (lCons (eC (.int 7)) lNil))))
  (sSeq (sIf (bAnd (bOf (e1 (gIsa PyData.isTuple) (eVar 1))) (bT (e2 gLt (eVar 3) (eC (.int 4)))))
    (sRet (e2 gIx (eLst (lCons (eSl gSl (eVar 1) oNone (oSome (e1 gNeg (eC (.int 1))))) (lCons (e2 gAdd (eVar 1) (eSl gSl (eVar 1) (oSome (e1 gNeg (eC (.int 1)))) oNone)) (lCons (e1 gList (eVar 1)) (lCons (e1 gBack (eVar 1)) lNil))))) (eVar 3)))
    sNil)
  (sSeq (sIf (bAnd (bOf (e1 (gIsa PyData.isInt) (eVar 1))) (bAnd (bNot (bOf (e1 (gIsa PyData.isBool) (eVar 1)))) (bT (e2 gLt (eVar 3) (eC (.int 4))))))
    (sRet (e2 gIx (eLst (lCons (e2 gAdd (eVar 1) (eC (.int 1))) (lCons (e2 gSub (eVar 1) (eC (.int 1))) (lCons (e2 gEq (eVar 1) (eC (.int 1))) (lCons (e1 gStr (eVar 1)) lNil))))) (eVar 3)))
    sNil)
  (sRet (eCallL F__law_odd 0 0 (lCons eLend lNil)))))))
def F__law_changed : Nat → DFn
  | 0 => fun _ => none
  | n + 1 => runF (S__law_changed (F__law_changed n)) [(.r [(.l .s), .s, .s, .s]), .s] 2
/-- _law_whole: 0 _law_value -/
def S__law_whole : Sf := (sRet (eAnd (e1 (gIsa PyData.isInt) (eVar 0)) (eNotT (bOf (e1 (gIsa PyData.isBool) (eVar 0))))))
def F__law_whole : DFn := runF S__law_whole [.s] 0
/-- _law_is_schedule: 0 _law_roster, 1 _law_value, 2 _law_one_here, 3 _law_hour, 4 _law_k -/
def T__law_is_schedule_1 : Bf := (bOr (bNot (bOf (eCall F__law_whole (lCons (eVar 3) lNil)))) (bNot (bT (eChain gLe gLe (eC (.int 0)) (eVar 3) (e2 gPow (eC (.int 10)) (eC (.int 6)))))))
def E__law_is_schedule_1 : Ef := (eVar 3)
def T__law_is_schedule_2 : Bf := (bAnd (bT (e2 gEq (e2 gIx (eVar 1) (eVar 4)) (e2 gIx (eVar 1) (eVar 2)))) (bOf (eCall F__law_are_rivals (lCons (eVar 0) (lCons (eVar 4) (lCons (eVar 2) lNil))))))
def E__law_is_schedule_2 : Ef := (eVar 4)
def B__law_is_schedule_1 : Sf := (sPost [2] [0, 1, 2, 3, 4]
  (sIf (bT (e2 gNe (eLc (iR1 (eVar 2)) [4] (gNm 4) T__law_is_schedule_2 E__law_is_schedule_2) (eLst lNil)))
    (sRet (eC (.bool false)))
    sNil))
def S__law_is_schedule : Sf := (sSeq (sIf (bOr (bNot (bOf (e1 (gIsa PyData.isTuple) (eVar 1)))) (bT (e2 gNe (e1 gLen (eVar 1)) (e1 gLen (e2 gIx (eVar 0) (eC (.int 2)))))))
    (sRet (eC (.bool false)))
    sNil)
  (sSeq (sIf (bT (e2 gNe (eLc (iSeq (eVar 1)) [3] (gNm 3) T__law_is_schedule_1 E__law_is_schedule_1) (eLst lNil)))
    (sRet (eC (.bool false)))
    sNil)
  (sSeq (sFor (iFg [2] (iR1 (e1 gLen (eVar 1)))) (gNm 2)
    B__law_is_schedule_1)
  (sRet (eC (.bool true))))))
def F__law_is_schedule : DFn := runF S__law_is_schedule [.s, .s] 3
/-- _law_degrees: 0 _law_roster, 1 _law_found, 2 _law_side, 3 _law_person, 4 _law_row -/
def T__law_degrees_1 : Bf := (bT (e2 gEq (e2 gIx (eVar 4) (eVar 2)) (eVar 3)))
def E__law_degrees_1 : Ef := (eVar 4)
def E__law_degrees_2 : Ef := (e1 gLen (eLc (iSeq (e2 gIx (eVar 0) (eC (.int 2)))) [4] (gNm 4) T__law_degrees_1 E__law_degrees_1))
def B__law_degrees_1 : Sf := (sPost [2] [0, 1, 2, 3, 4]
  (sDrop (eApp 1 (eLc (iR1 (e2 gIx (eVar 0) (eVar 2))) [3] (gNm 3) bYes E__law_degrees_2))))
def S__law_degrees : Sf := (sSeq (sAsg 1 (eLst lNil))
  (sSeq (sFor (iFg [2] (iR1 (eC (.int 2)))) (gNm 2)
    B__law_degrees_1)
  (sRet (eVar 1))))
def F__law_degrees : DFn := runF S__law_degrees [.s] 4
/-- _law_is_reason: 0 _law_roster, 1 _law_rooms_here, 2 _law_hours, 3 _law_value, 4 _law_numbers_here, 5 _law_part -/
def T__law_is_reason_1 : Bf := (bOf (e1 (gIsa PyData.isStr) (eVar 5)))
def E__law_is_reason_1 : Ef := (eVar 5)
def S__law_is_reason : Sf := (sSeq (sIf (bOr (bNot (bOf (e1 (gIsa PyData.isTuple) (eVar 3)))) (bT (e2 gNeL (eLc (iSeq (eVar 3)) [5] (gNm 5) T__law_is_reason_1 E__law_is_reason_1) (e1 gList (eSl gSl (eVar 3) oNone (oSome (eC (.int 1))))))))
    (sRet (eC (.bool false)))
    sNil)
  (sSeq (sIf (bT (e2 gEqT (eVar 3) (eTup (lCons (eC (.str "rooms")) lNil))))
    (sRet (e2 gLt (e2 gMul (e2 gSub (eVar 2) (eC (.int 1))) (eVar 1)) (e1 gLen (e2 gIx (eVar 0) (eC (.int 2))))))
    sNil)
  (sSeq (sIf (bOr (bT (e2 gNe (e1 gLen (eVar 3)) (eC (.int 2)))) (bOr (bT (e2 gNotIn (e2 gIx (eVar 3) (eC (.int 0))) (eLst (lCons (eC (.str "teacher")) (lCons (eC (.str "group")) lNil))))) (bNot (bOf (eCall F__law_whole (lCons (e2 gIx (eVar 3) (eC (.int 1))) lNil))))))
    (sRet (eC (.bool false)))
    sNil)
  (sSeq (sAsg 4 (e2 gIx (eCall F__law_degrees (lCons (eVar 0) lNil)) (e2 gIndex (eLst (lCons (eC (.str "teacher")) (lCons (eC (.str "group")) lNil))) (e2 gIx (eVar 3) (eC (.int 0))))))
  (sRet (eAnd (eChain gLe gLt (eC (.int 0)) (e2 gIx (eVar 3) (eC (.int 1))) (e1 gLen (eVar 4))) (e2 gEq (e2 gIx (eVar 4) (e2 gIx (eVar 3) (eC (.int 1)))) (eVar 2))))))))
def F__law_is_reason : DFn := runF S__law_is_reason [.s, .s, .s, .s] 2
/-- _law_due: 0 _law_roster, 1 _law_rooms_here, 2 _law_value, 3 _law_numbers_here -/
def S__law_due : Sf := (sSeq (sIf (bT (e2 gEq (e2 gIx (eVar 0) (eC (.int 2))) (eTup lNil)))
    (sRet (e2 gEq (e1 gRepr (eVar 2)) (e1 gRepr (eTup (lCons (eTup lNil) (lCons (eTup (lCons (eC (.str "none")) lNil)) lNil))))))
    sNil)
  (sSeq (sIf (bOr (bNot (bOf (e1 (gIsa PyData.isTuple) (eVar 2)))) (bOr (bT (e2 gNe (e1 gLen (eVar 2)) (eC (.int 2)))) (bNot (bOf (eCall F__law_is_schedule (lCons (eVar 0) (lCons (e2 gIx (eVar 2) (eC (.int 0))) lNil)))))))
    (sRet (eC (.bool false)))
    sNil)
  (sSeq (sAsg 3 (eCall F__law_numbers (lCons (e2 gIx (eVar 2) (eC (.int 0))) lNil)))
  (sRet (eAnd (e2 gLe (e1 gMax (eVar 3)) (eVar 1)) (eCall F__law_is_reason (lCons (eVar 0) (lCons (eVar 1) (lCons (e1 gLen (eVar 3)) (lCons (e2 gIx (eVar 2) (eC (.int 1))) lNil))))))))))
def F__law_due : DFn := runF S__law_due [.s, .s, .s] 1
/-- is_number: 0 value, 1 low, 2 high -/
def S_is_number : Sf := (sRet (eAnd (e1 (gIsa PyData.isInt) (eVar 0)) (eAnd (eNotT (bOf (e1 (gIsa PyData.isBool) (eVar 0)))) (eChain gLe gLe (eVar 1) (eVar 0) (eVar 2)))))
def F_is_number : DFn := runF S_is_number [.s, .s, .s] 0
/-- is_hour: 0 value -/
def S_is_hour : Sf := (sRet (eCall F_is_number (lCons (eVar 0) (lCons (eC (.int 0)) (lCons (eC (.int 1000000)) lNil)))))
def F_is_hour : DFn := runF S_is_hour [.s] 0
/-- are_rivals: 0 roster, 1 one, 2 other, 3 first, 4 second -/
def S_are_rivals : Sf := (sSeq (sPar 3 4 (lCons (e2 gIx (e2 gIx (eVar 0) (eC (.int 2))) (eVar 1)) (lCons (e2 gIx (e2 gIx (eVar 0) (eC (.int 2))) (eVar 2)) lNil)))
  (sRet (eAnd (e2 gNe (eVar 1) (eVar 2)) (eOr (e2 gEq (e2 gIx (eVar 3) (eC (.int 0))) (e2 gIx (eVar 4) (eC (.int 0)))) (e2 gEq (e2 gIx (eVar 3) (eC (.int 1))) (e2 gIx (eVar 4) (eC (.int 1))))))))
def F_are_rivals : DFn := runF S_are_rivals [.s, .s, .s] 2
/-- schedule_error: 0 roster, 1 value, 2 lessons, 3 one, 4 other, 5 hour -/
def E_schedule_error_1 : Ef := (eCall F_is_hour (lCons (eVar 5) lNil))
def B_schedule_error_1 : Sf := (sPost [4] [0, 1, 2, 3, 4, 5]
  (sIf (bAnd (bT (e2 gEq (e2 gIx (eVar 1) (eVar 3)) (e2 gIx (eVar 1) (eVar 4)))) (bOf (eCall F_are_rivals (lCons (eVar 0) (lCons (eVar 3) (lCons (eVar 4) lNil))))))
    (sRet (eTup (lCons (eC (.str "conflict")) (lCons (eVar 3) (lCons (eVar 4) lNil)))))
    sNil))
def B_schedule_error_2 : Sf := (sPost [3, 4] [0, 1, 2, 3, 4, 5]
  (sFor (iFg [4] (iR2 (e2 gAdd (eVar 3) (eC (.int 1))) (eVar 2))) (gNm 4)
    B_schedule_error_1))
def S_schedule_error : Sf := (sSeq (sAsg 2 (e1 gLen (e2 gIx (eVar 0) (eC (.int 2)))))
  (sSeq (sIf (bOr (bNot (bOf (e1 (gIsa PyData.isTuple) (eVar 1)))) (bOr (bT (e2 gNe (e1 gLen (eVar 1)) (eVar 2))) (bNot (bOf (e1 gAll (eLc (iSeq (eVar 1)) [5] (gNm 5) bYes E_schedule_error_1))))))
    (sRet (eTup (lCons (eC (.str "hours")) lNil)))
    sNil)
  (sSeq (sFor (iFg [3, 4] (iR1 (eVar 2))) (gNm 3)
    B_schedule_error_2)
  (sRet (eC .none)))))
def F_schedule_error : DFn := runF S_schedule_error [.s, .s] 4
/-- is_schedule: 0 roster, 1 value -/
def S_is_schedule : Sf := (sRet (e2 gIs (eCall F_schedule_error (lCons (eVar 0) (lCons (eVar 1) lNil))) (eC .none)))
def F_is_schedule : DFn := runF S_is_schedule [.s, .s] 0
/-- lessons_of: 0 roster, 1 side, 2 person, 3 place, 4 index, 5 lesson -/
def T_lessons_of_1 : Bf := (bT (e2 gEq (e2 gIx (eVar 5) (eVar 3)) (eVar 2)))
def E_lessons_of_1 : Ef := (eVar 4)
def S_lessons_of : Sf := (sSeq (sAsg 3 (eIf (bT (e2 gEq (eVar 1) (eC (.str "teacher")))) (eC (.int 0)) (eC (.int 1))))
  (sRet (eLc (iEn (e2 gIx (eVar 0) (eC (.int 2)))) [4, 5] (gTp 2 (gsCons (gNm 4) (gsCons (gNm 5) gsNil))) T_lessons_of_1 E_lessons_of_1)))
def F_lessons_of : DFn := runF S_lessons_of [.s, .s, .s] 3
/-- degrees: 0 roster, 1 by_teacher, 2 person -/
def E_degrees_1 : Ef := (e1 gLen (eCall F_lessons_of (lCons (eVar 0) (lCons (eC (.str "teacher")) (lCons (eVar 2) lNil)))))
def E_degrees_2 : Ef := (e1 gLen (eCall F_lessons_of (lCons (eVar 0) (lCons (eC (.str "group")) (lCons (eVar 2) lNil)))))
def S_degrees : Sf := (sSeq (sAsg 1 (e1 gTuple (eLc (iR1 (e2 gIx (eVar 0) (eC (.int 0)))) [2] (gNm 2) bYes E_degrees_1)))
  (sRet (eTup (lCons (eVar 1) (lCons (e1 gTuple (eLc (iR1 (e2 gIx (eVar 0) (eC (.int 1)))) [2] (gNm 2) bYes E_degrees_2)) lNil)))))
def F_degrees : DFn := runF S_degrees [.s] 2
/-- is_reason: 0 roster, 1 rooms, 2 hours, 3 value, 4 numbers -/
def S_is_reason : Sf := (sSeq (sIf (bOr (bNot (bOf (e1 (gIsa PyData.isTuple) (eVar 3)))) (bOr (bT (e2 gEq (eVar 3) (eTup lNil))) (bNot (bOf (e1 (gIsa PyData.isStr) (e2 gIx (eVar 3) (eC (.int 0))))))))
    (sRet (eC (.bool false)))
    sNil)
  (sSeq (sIf (bT (e2 gEqT (eVar 3) (eC (.tuple [.str "rooms"]))))
    (sRet (e2 gLt (e2 gMul (e2 gSub (eVar 2) (eC (.int 1))) (eVar 1)) (e1 gLen (e2 gIx (eVar 0) (eC (.int 2))))))
    sNil)
  (sSeq (sIf (bOr (bT (e2 gNe (e1 gLen (eVar 3)) (eC (.int 2)))) (bT (e2 gNotIn (e2 gIx (eVar 3) (eC (.int 0))) (eTup (lCons (eC (.str "teacher")) (lCons (eC (.str "group")) lNil))))))
    (sRet (eC (.bool false)))
    sNil)
  (sSeq (sAsg 4 (e2 gIx (eCall F_degrees (lCons (eVar 0) lNil)) (e1 gInt (e2 gEq (e2 gIx (eVar 3) (eC (.int 0))) (eC (.str "group"))))))
  (sRet (eAnd (eCall F_is_number (lCons (e2 gIx (eVar 3) (eC (.int 1))) (lCons (eC (.int 0)) (lCons (e2 gSub (e1 gLen (eVar 4)) (eC (.int 1))) lNil)))) (e2 gEq (e2 gIx (eVar 4) (e2 gIx (eVar 3) (eC (.int 1)))) (eVar 2))))))))
def F_is_reason : DFn := runF S_is_reason [.s, .s, .s, .s] 1
/-- rooms_holds: 0 roster, 1 rooms, 2 value, 3 schedule, 4 reason, 5 numbers, 6 hour -/
def E_rooms_holds_1 : Ef := (e2 gCount (eVar 3) (eVar 6))
def S_rooms_holds : Sf := (sSeq (sIf (bOr (bNot (bOf (e1 (gIsa PyData.isTuple) (eVar 2)))) (bOr (bT (e2 gNe (e1 gLen (eVar 2)) (eC (.int 2)))) (bNot (bOf (eCall F_is_schedule (lCons (eVar 0) (lCons (e2 gIx (eVar 2) (eC (.int 0))) lNil)))))))
    (sRet (eC (.bool false)))
    sNil)
  (sSeq (sTg (eVar 2) (gTp 2 (gsCons (gNm 3) (gsCons (gNm 4) gsNil))))
  (sSeq (sIf (bT (e2 gEq (eVar 3) (eTup lNil)))
    (sRet (e2 gEqT (eVar 4) (eC (.tuple [.str "none"]))))
    sNil)
  (sSeq (sAsg 5 (eLc (iSeq (e1 gSortSet (eVar 3))) [6] (gNm 6) bYes E_rooms_holds_1))
  (sRet (eAnd (e2 gLe (e1 gMax (eVar 5)) (eVar 1)) (eCall F_is_reason (lCons (eVar 0) (lCons (eVar 1) (lCons (e1 gLen (eVar 5)) (lCons (eVar 4) lNil)))))))))))
def F_rooms_holds : DFn := runF S_rooms_holds [.s, .s, .s] 4
/-- law: 0 _law_script, 1 _law_deck_here, 2 _law_turn, 3 _law_roster, 4 _law_schedule, 5 _law_most, 6 _law_rooms_here, 7 _law_plans, 8 _law_values, 9 _law_k, 10 _law_pair, 11 _law_value, 12 _law_kept, 13 _law_due_here, 14 _law_reason -/
def E_law_1 : Ef := (eTup (lCons (eVar 4) (lCons (eVar 14) lNil)))
def B_law_1 : Sf := (sPost [9, 10] [0, 1, 2, 3, 4, 5, 6, 7, 8, 9, 10, 11, 12, 13, 14]
  (sSeq (sAsg 10 (eTup (lCons (eCallL F__law_one 0 1 (lCons eLend (lCons (eVar 7) lNil))) (lCons (eCallL F__law_one 0 1 (lCons eLend (lCons (eCall F__law_reasons (lCons (eVar 3) lNil)) lNil))) lNil))))
  (sAsg 8 (e2 gAdd (eVar 8) (eLst (lCons (eVar 10) (lCons (eCallL (F__law_changed 12) 0 1 (lCons eLend (lCons (eVar 10) lNil))) (lCons (eCallL (F__law_changed 12) 0 1 (lCons eLend (lCons (eCallL (F__law_changed 12) 0 1 (lCons eLend (lCons (eVar 10) lNil))) lNil))) lNil))))))))
def B_law_2 : Sf := (sPost [11, 12, 13] [0, 1, 2, 3, 4, 5, 6, 7, 8, 9, 10, 11, 12, 13, 14]
  (sSeq (sPar 12 13 (lCons (e1 gRepr (eTup (lCons (eVar 3) (lCons (eVar 6) (lCons (eVar 11) lNil))))) (lCons (e1 gRepr (eCall F__law_due (lCons (eVar 3) (lCons (eVar 6) (lCons (eVar 11) lNil))))) lNil)))
  (sIf (bOr (bT (e2 gNe (e1 gRepr (eCall F_rooms_holds (lCons (eVar 3) (lCons (eVar 6) (lCons (eVar 11) lNil))))) (eVar 13))) (bT (e2 gNe (e1 gRepr (eTup (lCons (eVar 3) (lCons (eVar 6) (lCons (eVar 11) lNil))))) (eVar 12))))
    (sRet (eC (.bool false)))
    sNil)))
def B_law_3 : Sf := (sPost [2, 3, 4, 5, 6, 7, 8, 9, 10, 11, 12, 13] [0, 1, 2, 3, 4, 5, 6, 7, 8, 9, 10, 11, 12, 13, 14]
  (sSeq (sTg (eCallL F__law_planned 0 1 (lCons eLend (lCons (eC (.int 16)) lNil))) (gTpL 2 (gsCons (gNm 3) (gsCons (gNm 4) gsNil))))
  (sSeq (sIf (bT (e2 gEq (eCallL F__law_next 0 1 (lCons eLend (lCons (eC (.int 6)) lNil))) (eC (.int 0))))
    (sTg (eTup (lCons (eTup (lCons (e2 gIx (eVar 3) (eC (.int 0))) (lCons (e2 gIx (eVar 3) (eC (.int 1))) (lCons (eTup lNil) lNil)))) (lCons (eTup lNil) lNil))) (gTp 2 (gsCons (gNm 3) (gsCons (gNm 4) gsNil))))
    sNil)
  (sSeq (sAsg 5 (e1 gMax (e2 gAdd (eCall F__law_numbers (lCons (eVar 4) lNil)) (eLst (lCons (eC (.int 1)) lNil)))))
  (sSeq (sAsg 6 (eCallL F__law_one 0 1 (lCons eLend (lCons (eLst (lCons (eVar 5) (lCons (eVar 5) (lCons (e2 gAdd (eVar 5) (eC (.int 1))) (lCons (e2 gMax2 (eC (.int 1)) (e2 gSub (eVar 5) (eC (.int 1)))) (lCons (eCallL F__law_rooms 0 1 (lCons eLend lNil)) lNil)))))) lNil))))
  (sSeq (sAsg 7 (eLst (lCons (eVar 4) (lCons (eCallL F__law_compact 0 1 (lCons eLend (lCons (eVar 3) lNil))) (lCons (eCallL F__law_spread 0 1 (lCons eLend (lCons (eVar 4) lNil))) lNil)))))
  (sSeq (sAsg 8 (eLc (iSeq (eCall F__law_reasons (lCons (eVar 3) lNil))) [14] (gNm 14) bYes E_law_1))
  (sSeq (sFor (iFg [9, 10] (iR1 (eC (.int 12)))) (gNm 9)
    B_law_1)
  (sFor (iFg [11, 12, 13] (iSeq (e2 gAdd (eVar 8) (eLst (lCons (eCallL F__law_odd 0 1 (lCons eLend lNil)) lNil))))) (gNm 11)
    B_law_2)))))))))
def R_law_1 : Sf := (sRet (eC (.bool true)))
def R_law_2 : Sf := (sSeq (sFor (iFg [2, 3, 4, 5, 6, 7, 8, 9, 10, 11, 12, 13] (iR1 (eC (.int 8)))) (gNm 2)
    B_law_3)
  R_law_1)
def S_law : Sf := (sSeq (sAsg 1 (eCallL F__law_deck 0 0 (lCons eLend lNil)))
  R_law_2)
def F_law : DFn := runF S_law [.q] 14
end LK

namespace LK
open PySem L2 PySem.Spec DL
/-! ### plain words -/
def C__law_deck_1 (d : PyData) : Option (PyData) :=
(gAbs d).bind fun v3 =>
some v3
theorem C__law_deck_1_eq (script cell : PyData) (xs : List PyData) : lcL [1] (gNm 1) bYes E__law_deck_1 xs [script, cell] = (mapS xs (C__law_deck_1)).bind fun r => some (r, [script, cell]) :=
  lc_map (vs := [1]) (gf := (gNm 1)) (ef := E__law_deck_1) (C__law_deck_1) (fun d => by simp -implicitDefEqProofs [E__law_deck_1, C__law_deck_1, ite_bind', ifB_bind, thenS_bind, Option.bind_assoc]) xs
def f__law_deck (script : PyData) : Option PyData :=
(gSlL script none (some 63)).bind fun v1 =>
(seqD v1).bind fun v2 =>
(mapS v2 (C__law_deck_1)).bind fun v4 =>
(gLenL script).bind fun v5 =>
(gMul (.int 37) v5).bind fun v6 =>
(gAdd (.int 11) v6).bind fun v7 =>
some (.list [(.list v4), (.int 0), (.int 0), v7])
theorem f__law_deck_eq (script : PyData) : F__law_deck [script] = (f__law_deck script).bind fun r => some (r, [script]) := by
  simp -implicitDefEqProofs [F__law_deck, S__law_deck, f__law_deck, C__law_deck_1_eq, ite_bind', ifB_bind, thenS_bind, Option.bind_assoc]
def WL__law_next_1 (s : PyData) : Option Bool :=
(gIx s (.int 1)).bind fun v14 =>
(gEq v14 (.int 0)).bind fun v15 =>
(asB v15).bind fun v16 =>
(if v16 = true then ((gIx s (.int 0)).bind fun v17 =>
(gNe v17 (.list [])).bind fun v18 =>
(asB v18).bind fun v19 =>
some v19) else (some false)).bind fun v20 =>
some v20
def L__law_next_1 (s : PyData) : Option PyData :=
(itemD s (.int 0)).bind fun v1 =>
(gPopAt v1 (.int 0)).bind fun v2 =>
(gIx (setD s (.int 0) v2.2) (.int 3)).bind fun v3 =>
(grd (scD v3)).bind fun _ =>
(gMul v3 (.int 48271)).bind fun v4 =>
(gAdd v4 v2.1).bind fun v5 =>
(gAdd v5 (.int 7)).bind fun v6 =>
(gMod v6 (.int 2147483647)).bind fun v7 =>
(gSet (setD s (.int 0) v2.2) (.int 3) v7).bind fun v8 =>
(gPow (.int 10) (.int 18)).bind fun v9 =>
(gGe v2.1 v9).bind fun v10 =>
(gInt v10).bind fun v11 =>
(gMul v2.1 v11).bind fun v12 =>
(gSet v8 (.int 1) v12).bind fun v13 =>
some v13
theorem L__law_next_1_eq (deck_here many digit : PyData) (n : Nat) : whL W__law_next_1 B__law_next_1 n [deck_here, many, .none, digit] = (whS n (WL__law_next_1) (L__law_next_1) deck_here).bind fun r => some (.nx, [r, many, .none, digit]) :=
  wh_fold (cf := W__law_next_1) (sf := B__law_next_1) (fun s : PyData => [s, many, .none, digit]) (WL__law_next_1) (L__law_next_1) (fun s => by simp -implicitDefEqProofs [W__law_next_1, WL__law_next_1, ite_bind', ifB_bind, thenS_bind, Option.bind_assoc]) (fun s => by simp -implicitDefEqProofs [B__law_next_1, L__law_next_1, ite_bind', ifB_bind, thenS_bind, Option.bind_assoc]) n deck_here
def K__law_next_1 (deck_here many : PyData) : Option (PyData × PyData) :=
(gIx deck_here (.int 3)).bind fun v41 =>
(grd (scD v41)).bind fun _ =>
(gIx deck_here (.int 3)).bind fun v42 =>
(grd (scD v42)).bind fun _ =>
(gMul v41 v42).bind fun v43 =>
(gMod v43 (.int 2147483629)).bind fun v44 =>
(gFdiv v44 (.int 8)).bind fun v45 =>
(gMod v45 many).bind fun v46 =>
some (v46, deck_here)
theorem K__law_next_1_eq (deck_here many cell digit i0' i1' : PyData) : ((R__law_next_1 [deck_here, many, cell, digit]).bind fun p => retR [(.r [(.l .s), .s, .s, .s]), .s] [i0', i1'] p) = (K__law_next_1 deck_here many).bind fun r => some (r.1, [r.2, i1']) := by
  simp -implicitDefEqProofs [R__law_next_1, K__law_next_1, ite_bind', ifB_bind, thenS_bind, Option.bind_assoc]
def f__law_next (deck_here many : PyData) : Option (PyData × PyData) :=
(whS fuel (WL__law_next_1) (L__law_next_1) deck_here).bind fun v21 =>
(gIx v21 (.int 1)).bind fun v22 =>
(gGt v22 (.int 0)).bind fun v23 =>
(asB v23).bind fun v24 =>
if v24 = true then ((gIx v21 (.int 1)).bind fun v25 =>
(grd (scD v25)).bind fun _ =>
(gMod v25 many).bind fun v26 =>
(gIx v21 (.int 1)).bind fun v27 =>
(grd (scD v27)).bind fun _ =>
(gFdiv v27 many).bind fun v28 =>
(gSet v21 (.int 1) v28).bind fun v29 =>
some (v26, v29)) else ((gIx v21 (.int 2)).bind fun v30 =>
(grd (scD v30)).bind fun _ =>
(gAdd v30 (.int 1)).bind fun v31 =>
(gSet v21 (.int 2) v31).bind fun v32 =>
(gIx v32 (.int 3)).bind fun v33 =>
(grd (scD v33)).bind fun _ =>
(gMul v33 (.int 69621)).bind fun v34 =>
(gIx v32 (.int 2)).bind fun v35 =>
(grd (scD v35)).bind fun _ =>
(gMul (.int 30011) v35).bind fun v36 =>
(gAdd v34 v36).bind fun v37 =>
(gAdd v37 (.int 12345)).bind fun v38 =>
(gMod v38 (.int 2147483647)).bind fun v39 =>
(gSet v32 (.int 3) v39).bind fun v40 =>
K__law_next_1 v40 many)
theorem f__law_next_eq (deck_here many : PyData) : F__law_next [deck_here, many] = (f__law_next deck_here many).bind fun r => some (r.1, [r.2, many]) := by
  simp -implicitDefEqProofs [F__law_next, S__law_next, f__law_next, L__law_next_1_eq, K__law_next_1_eq, ite_bind', ifB_bind, thenS_bind, Option.bind_assoc]
def WL__law_shuffled_1 (s : PyData × PyData × PyData) : Option Bool :=
(gNe s.2.1 (.list [])).bind fun v6 =>
(asB v6).bind fun v7 =>
some v7
def L__law_shuffled_1 (s : PyData × PyData × PyData) : Option (PyData × PyData × PyData) :=
(gLen s.2.1).bind fun v2 =>
(grd (scD v2)).bind fun _ =>
(f__law_next s.1 v2).bind fun v3 =>
(gPopAt s.2.1 v3.1).bind fun v4 =>
(gApp s.2.2 v4.1).bind fun found5 =>
some (v3.2, v4.2, found5)
theorem L__law_shuffled_1_eq (deck_here items left found : PyData) (n : Nat) : whL W__law_shuffled_1 B__law_shuffled_1 n [deck_here, items, left, found] = (whS n (WL__law_shuffled_1) (L__law_shuffled_1) (deck_here, left, found)).bind fun r => some (.nx, [r.1, items, r.2.1, r.2.2]) :=
  wh_fold (cf := W__law_shuffled_1) (sf := B__law_shuffled_1) (fun s : PyData × PyData × PyData => [s.1, items, s.2.1, s.2.2]) (WL__law_shuffled_1) (L__law_shuffled_1) (fun s => by simp -implicitDefEqProofs [W__law_shuffled_1, WL__law_shuffled_1, f__law_next_eq, ite_bind', ifB_bind, thenS_bind, Option.bind_assoc]) (fun s => by simp -implicitDefEqProofs [B__law_shuffled_1, L__law_shuffled_1, f__law_next_eq, ite_bind', ifB_bind, thenS_bind, Option.bind_assoc]) n (deck_here, left, found)
def f__law_shuffled (deck_here items : PyData) : Option (PyData × PyData) :=
(gList items).bind fun v1 =>
(whS fuel (WL__law_shuffled_1) (L__law_shuffled_1) (deck_here, v1, (.list []))).bind fun v8 =>
some (v8.2.2, v8.1)
theorem f__law_shuffled_eq (deck_here items : PyData) : F__law_shuffled [deck_here, items] = (f__law_shuffled deck_here items).bind fun r => some (r.1, [r.2, items]) := by
  simp -implicitDefEqProofs [F__law_shuffled, S__law_shuffled, f__law_shuffled, L__law_shuffled_1_eq, f__law_next_eq, ite_bind', ifB_bind, thenS_bind, Option.bind_assoc]
def L__law_planned_2 (hour : PyData) (d : PyData) (s : PyData × PyData × PyData × PyData) : Option (PyData × PyData × PyData × PyData) :=
(un2 d).bind fun v15 =>
(f__law_next s.1 (.int 5)).bind fun v16 =>
(gGt v16.1 (.int 0)).bind fun v17 =>
(asB v17).bind fun v18 =>
if v18 = true then ((gApp s.2.1 (.tuple [v15.1, v15.2, hour])).bind fun rows19 =>
some (v16.2, rows19, v15.1, v15.2)) else (some (v16.2, s.2.1, v15.1, v15.2))
theorem L__law_planned_2_eq (deck_here most people teachers groups rows hour left right teacher group lessons : PyData) (xs : List PyData) : forL (gTp 2 (gsCons (gNm 9) (gsCons (gNm 10) gsNil))) B__law_planned_1 xs [deck_here, most, people, teachers, groups, rows, hour, left, right, teacher, group, lessons] = (foldS xs (L__law_planned_2 hour) (deck_here, rows, teacher, group)).bind fun r => some (.nx, [r.1, most, people, teachers, groups, r.2.1, hour, left, right, r.2.2.1, r.2.2.2, lessons]) :=
  for_fold (gf := (gTp 2 (gsCons (gNm 9) (gsCons (gNm 10) gsNil)))) (sf := B__law_planned_1) (fun s : PyData × PyData × PyData × PyData => [s.1, most, people, teachers, groups, s.2.1, hour, left, right, s.2.2.1, s.2.2.2, lessons]) (L__law_planned_2 hour) (fun d s => by simp -implicitDefEqProofs [B__law_planned_1, L__law_planned_2, f__law_next_eq, ite_bind', ifB_bind, thenS_bind, Option.bind_assoc]) xs (deck_here, rows, teacher, group)
def L__law_planned_1 (teachers groups : PyData) (d : PyData) (s : PyData × PyData × PyData × PyData × PyData) : Option (PyData × PyData × PyData × PyData × PyData) :=
(rng1 teachers).bind fun v10 =>
(f__law_shuffled s.1 (.list v10)).bind fun v11 =>
(rng1 groups).bind fun v12 =>
(f__law_shuffled v11.2 (.list v12)).bind fun v13 =>
(zipS v11.1 v13.1).bind fun v14 =>
(foldS v14 (L__law_planned_2 d) (v13.2, s.2.1, s.2.2.2.1, s.2.2.2.2)).bind fun v20 =>
some (v20.1, v20.2.1, d, v20.2.2.1, v20.2.2.2)
theorem L__law_planned_1_eq (deck_here most people teachers groups rows hour teacher group lessons : PyData) (xs : List PyData) : forL (gNm 6) B__law_planned_2 xs [deck_here, most, people, teachers, groups, rows, hour, .none, .none, teacher, group, lessons] = (foldS xs (L__law_planned_1 teachers groups) (deck_here, rows, hour, teacher, group)).bind fun r => some (.nx, [r.1, most, people, teachers, groups, r.2.1, r.2.2.1, .none, .none, r.2.2.2.1, r.2.2.2.2, lessons]) :=
  for_fold (gf := (gNm 6)) (sf := B__law_planned_2) (fun s : PyData × PyData × PyData × PyData × PyData => [s.1, most, people, teachers, groups, s.2.1, s.2.2.1, .none, .none, s.2.2.2.1, s.2.2.2.2, lessons]) (L__law_planned_1 teachers groups) (fun d s => by simp -implicitDefEqProofs [B__law_planned_2, L__law_planned_1, L__law_planned_2_eq, f__law_shuffled_eq, f__law_next_eq, ite_bind', ifB_bind, thenS_bind, Option.bind_assoc]) xs (deck_here, rows, hour, teacher, group)
def C__law_planned_1 (d : PyData) : Option (PyData) :=
(un3 d).bind fun v26 =>
some (.tuple [v26.1, v26.2.1])
theorem C__law_planned_1_eq (deck_here most people teachers groups rows hour left right teacher group lessons : PyData) (xs : List PyData) : lcL [9, 10, 6] (gTp 3 (gsCons (gNm 9) (gsCons (gNm 10) (gsCons (gNm 6) gsNil)))) bYes E__law_planned_1 xs [deck_here, most, people, teachers, groups, rows, hour, left, right, teacher, group, lessons] = (mapS xs (C__law_planned_1)).bind fun r => some (r, [deck_here, most, people, teachers, groups, rows, hour, left, right, teacher, group, lessons]) :=
  lc_map (vs := [9, 10, 6]) (gf := (gTp 3 (gsCons (gNm 9) (gsCons (gNm 10) (gsCons (gNm 6) gsNil))))) (ef := E__law_planned_1) (C__law_planned_1) (fun d => by simp -implicitDefEqProofs [E__law_planned_1, C__law_planned_1, ite_bind', ifB_bind, thenS_bind, Option.bind_assoc]) xs
def C__law_planned_2 (d : PyData) : Option (PyData) :=
(un3 d).bind fun v30 =>
some v30.2.2
theorem C__law_planned_2_eq (deck_here most people teachers groups rows hour left right teacher group lessons : PyData) (xs : List PyData) : lcL [9, 10, 6] (gTp 3 (gsCons (gNm 9) (gsCons (gNm 10) (gsCons (gNm 6) gsNil)))) bYes E__law_planned_2 xs [deck_here, most, people, teachers, groups, rows, hour, left, right, teacher, group, lessons] = (mapS xs (C__law_planned_2)).bind fun r => some (r, [deck_here, most, people, teachers, groups, rows, hour, left, right, teacher, group, lessons]) :=
  lc_map (vs := [9, 10, 6]) (gf := (gTp 3 (gsCons (gNm 9) (gsCons (gNm 10) (gsCons (gNm 6) gsNil))))) (ef := E__law_planned_2) (C__law_planned_2) (fun d => by simp -implicitDefEqProofs [E__law_planned_2, C__law_planned_2, ite_bind', ifB_bind, thenS_bind, Option.bind_assoc]) xs
def f__law_planned (deck_here most : PyData) : Option (PyData × PyData) :=
(f__law_next deck_here (.int 5)).bind fun v1 =>
(gIx (.list [(.int 1), (.int 2), (.int 3), (.int 4), (.int 8)]) v1.1).bind fun v2 =>
(f__law_next v1.2 v2).bind fun v3 =>
(gAdd (.int 1) v3.1).bind fun v4 =>
(f__law_next v3.2 v2).bind fun v5 =>
(gAdd (.int 1) v5.1).bind fun v6 =>
(f__law_next v5.2 (.int 6)).bind fun v7 =>
(gAdd (.int 1) v7.1).bind fun v8 =>
(rng1 v8).bind fun v9 =>
(foldS v9 (L__law_planned_1 v4 v6) (v7.2, (.list []), .none, .none, .none)).bind fun v21 =>
(f__law_shuffled v21.1 v21.2.1).bind fun v22 =>
(prt most).bind fun v23 =>
(gSlL v22.1 none v23).bind fun v24 =>
(seqD v24).bind fun v25 =>
(mapS v25 (C__law_planned_1)).bind fun v27 =>
(gTuple (.list v27)).bind fun v28 =>
(seqD v24).bind fun v29 =>
(mapS v29 (C__law_planned_2)).bind fun v31 =>
(gTuple (.list v31)).bind fun v32 =>
some ((.list [(.tuple [v4, v6, v28]), v32]), v22.2)
theorem f__law_planned_eq (deck_here most : PyData) : F__law_planned [deck_here, most] = (f__law_planned deck_here most).bind fun r => some (r.1, [r.2, most]) := by
  simp -implicitDefEqProofs [F__law_planned, S__law_planned, f__law_planned, L__law_planned_1_eq, C__law_planned_1_eq, C__law_planned_2_eq, f__law_next_eq, f__law_shuffled_eq, ite_bind', ifB_bind, thenS_bind, Option.bind_assoc]
def C__law_numbers_2 (hour : PyData) (d : PyData) : Option (Option PyData) :=
(gEq d hour).bind fun v4 =>
(asB v4).bind fun v5 =>
if v5 = true then (some (some d)) else (some none)
theorem C__law_numbers_2_eq (schedule hour one_here : PyData) (xs : List PyData) : lcL [2] (gNm 2) T__law_numbers_1 E__law_numbers_1 xs [schedule, hour, one_here] = (filS xs (C__law_numbers_2 hour)).bind fun r => some (r, [schedule, hour, one_here]) :=
  lc_fil (vs := [2]) (gf := (gNm 2)) (tf := T__law_numbers_1) (ef := E__law_numbers_1) (C__law_numbers_2 hour) (fun d => by simp -implicitDefEqProofs [T__law_numbers_1, E__law_numbers_1, C__law_numbers_2, ite_bind', ifB_bind, thenS_bind, Option.bind_assoc]) xs
def C__law_numbers_1 (schedule : PyData) (d : PyData) : Option (PyData) :=
(seqD schedule).bind fun v3 =>
(filS v3 (C__law_numbers_2 d)).bind fun v6 =>
(gLen (.list v6)).bind fun v7 =>
some v7
theorem C__law_numbers_1_eq (schedule hour one_here : PyData) (xs : List PyData) : lcL [1] (gNm 1) bYes E__law_numbers_2 xs [schedule, hour, one_here] = (mapS xs (C__law_numbers_1 schedule)).bind fun r => some (r, [schedule, hour, one_here]) :=
  lc_map (vs := [1]) (gf := (gNm 1)) (ef := E__law_numbers_2) (C__law_numbers_1 schedule) (fun d => by simp -implicitDefEqProofs [E__law_numbers_2, C__law_numbers_1, C__law_numbers_2_eq, ite_bind', ifB_bind, thenS_bind, Option.bind_assoc]) xs
def f__law_numbers (schedule : PyData) : Option PyData :=
(gSortSet schedule).bind fun v1 =>
(seqD v1).bind fun v2 =>
(mapS v2 (C__law_numbers_1 schedule)).bind fun v8 =>
some (.list v8)
theorem f__law_numbers_eq (schedule : PyData) : F__law_numbers [schedule] = (f__law_numbers schedule).bind fun r => some (r, [schedule]) := by
  simp -implicitDefEqProofs [F__law_numbers, S__law_numbers, f__law_numbers, C__law_numbers_1_eq, ite_bind', ifB_bind, thenS_bind, Option.bind_assoc]
def f__law_one (deck_here items : PyData) : Option (PyData × PyData) :=
(gLen items).bind fun v1 =>
(f__law_next deck_here v1).bind fun v2 =>
(gIx items v2.1).bind fun v3 =>
some (v3, v2.2)
theorem f__law_one_eq (deck_here items : PyData) : F__law_one [deck_here, items] = (f__law_one deck_here items).bind fun r => some (r.1, [r.2, items]) := by
  simp -implicitDefEqProofs [F__law_one, S__law_one, f__law_one, f__law_next_eq, ite_bind', ifB_bind, thenS_bind, Option.bind_assoc]
def f__law_rooms (deck_here : PyData) : Option (PyData × PyData) :=
(f__law_next deck_here (.int 16)).bind fun v1 =>
(gAdd (.int 1) v1.1).bind fun v2 =>
(gPow (.int 10) (.int 12)).bind fun v3 =>
(gPow (.int 10) (.int 29)).bind fun v4 =>
(f__law_next v1.2 (.int 6)).bind fun v5 =>
(gIx (.list [(.int 1), (.int 2), (.int 3), v2, v3, v4]) v5.1).bind fun v6 =>
some (v6, v5.2)
theorem f__law_rooms_eq (deck_here : PyData) : F__law_rooms [deck_here] = (f__law_rooms deck_here).bind fun r => some (r.1, [r.2]) := by
  simp -implicitDefEqProofs [F__law_rooms, S__law_rooms, f__law_rooms, f__law_next_eq, ite_bind', ifB_bind, thenS_bind, Option.bind_assoc]
def f__law_are_rivals (roster one_here other : PyData) : Option PyData :=
(gIx roster (.int 2)).bind fun v1 =>
(gIx v1 one_here).bind fun v2 =>
(gIx roster (.int 2)).bind fun v3 =>
(gIx v3 other).bind fun v4 =>
(gNe one_here other).bind fun v5 =>
(ifB v5 (((gIx v2 (.int 0)).bind fun v6 =>
(gIx v4 (.int 0)).bind fun v7 =>
(gEq v6 v7).bind fun v8 =>
(ifB v8 ((some (.bool true))) (((gIx v2 (.int 1)).bind fun v9 =>
(gIx v4 (.int 1)).bind fun v10 =>
(gEq v9 v10).bind fun v11 =>
some v11))).bind fun v12 =>
some v12)) ((some (.bool false)))).bind fun v13 =>
some v13
theorem f__law_are_rivals_eq (roster one_here other : PyData) : F__law_are_rivals [roster, one_here, other] = (f__law_are_rivals roster one_here other).bind fun r => some (r, [roster, one_here, other]) := by
  simp -implicitDefEqProofs [F__law_are_rivals, S__law_are_rivals, f__law_are_rivals, ite_bind', ifB_bind, thenS_bind, Option.bind_assoc]
def C__law_compact_1 (roster found lesson : PyData) (d : PyData) : Option (Option PyData) :=
(f__law_are_rivals roster d lesson).bind fun v5 =>
(gTruth v5).bind fun v6 =>
if v6 = true then ((gIx found d).bind fun v7 =>
some (some v7)) else (some none)
theorem C__law_compact_1_eq (deck_here roster found lesson taken k hour : PyData) (xs : List PyData) : lcL [5] (gNm 5) T__law_compact_1 E__law_compact_1 xs [deck_here, roster, found, lesson, taken, k, hour] = (filS xs (C__law_compact_1 roster found lesson)).bind fun r => some (r, [deck_here, roster, found, lesson, taken, k, hour]) :=
  lc_fil (vs := [5]) (gf := (gNm 5)) (tf := T__law_compact_1) (ef := E__law_compact_1) (C__law_compact_1 roster found lesson) (fun d => by simp -implicitDefEqProofs [T__law_compact_1, E__law_compact_1, C__law_compact_1, f__law_are_rivals_eq, ite_bind', ifB_bind, thenS_bind, Option.bind_assoc]) xs
def C__law_compact_2 (taken : PyData) (d : PyData) : Option (Option PyData) :=
(gNotIn d taken).bind fun v10 =>
(asB v10).bind fun v11 =>
if v11 = true then (some (some d)) else (some none)
theorem C__law_compact_2_eq (deck_here roster found lesson taken k hour : PyData) (xs : List PyData) : lcL [6] (gNm 6) T__law_compact_2 E__law_compact_2 xs [deck_here, roster, found, lesson, taken, k, hour] = (filS xs (C__law_compact_2 taken)).bind fun r => some (r, [deck_here, roster, found, lesson, taken, k, hour]) :=
  lc_fil (vs := [6]) (gf := (gNm 6)) (tf := T__law_compact_2) (ef := E__law_compact_2) (C__law_compact_2 taken) (fun d => by simp -implicitDefEqProofs [T__law_compact_2, E__law_compact_2, C__law_compact_2, ite_bind', ifB_bind, thenS_bind, Option.bind_assoc]) xs
def L__law_compact_1 (roster : PyData) (d : PyData) (s : PyData) : Option PyData :=
(rng1 d).bind fun v4 =>
(filS v4 (C__law_compact_1 roster s d)).bind fun v8 =>
(rng1 (.int 40)).bind fun v9 =>
(filS v9 (C__law_compact_2 (.list v8))).bind fun v12 =>
(gMin (.list v12)).bind fun v13 =>
(gAdd s (.tuple [v13])).bind fun v14 =>
some v14
theorem L__law_compact_1_eq (deck_here roster found k hour : PyData) (xs : List PyData) : forL (gNm 3) B__law_compact_1 xs [deck_here, roster, found, .none, .none, k, hour] = (foldS xs (L__law_compact_1 roster) found).bind fun r => some (.nx, [deck_here, roster, r, .none, .none, k, hour]) :=
  for_fold (gf := (gNm 3)) (sf := B__law_compact_1) (fun s : PyData => [deck_here, roster, s, .none, .none, k, hour]) (L__law_compact_1 roster) (fun d s => by simp -implicitDefEqProofs [B__law_compact_1, L__law_compact_1, C__law_compact_1_eq, C__law_compact_2_eq, f__law_are_rivals_eq, ite_bind', ifB_bind, thenS_bind, Option.bind_assoc]) xs found
def f__law_compact (deck_here roster : PyData) : Option (PyData × PyData) :=
(gIx roster (.int 2)).bind fun v1 =>
(gLen v1).bind fun v2 =>
(rng1 v2).bind fun v3 =>
(foldS v3 (L__law_compact_1 roster) (.tuple [])).bind fun v15 =>
some (v15, deck_here)
theorem f__law_compact_eq (deck_here roster : PyData) : F__law_compact [deck_here, roster] = (f__law_compact deck_here roster).bind fun r => some (r.1, [r.2, roster]) := by
  simp -implicitDefEqProofs [F__law_compact, S__law_compact, f__law_compact, L__law_compact_1_eq, f__law_are_rivals_eq, ite_bind', ifB_bind, thenS_bind, Option.bind_assoc]
def C__law_spread_1 (step : PyData) (d : PyData) : Option (PyData) :=
(gMul d step).bind fun v4 =>
some v4
theorem C__law_spread_1_eq (deck_here schedule step names k hour : PyData) (xs : List PyData) : lcL [4] (gNm 4) bYes E__law_spread_1 xs [deck_here, schedule, step, names, k, hour] = (mapS xs (C__law_spread_1 step)).bind fun r => some (r, [deck_here, schedule, step, names, k, hour]) :=
  lc_map (vs := [4]) (gf := (gNm 4)) (ef := E__law_spread_1) (C__law_spread_1 step) (fun d => by simp -implicitDefEqProofs [E__law_spread_1, C__law_spread_1, ite_bind', ifB_bind, thenS_bind, Option.bind_assoc]) xs
def C__law_spread_2 (names : PyData) (d : PyData) : Option (PyData) :=
(gIx names d).bind fun v8 =>
some v8
theorem C__law_spread_2_eq (deck_here schedule step names k hour : PyData) (xs : List PyData) : lcL [5] (gNm 5) bYes E__law_spread_2 xs [deck_here, schedule, step, names, k, hour] = (mapS xs (C__law_spread_2 names)).bind fun r => some (r, [deck_here, schedule, step, names, k, hour]) :=
  lc_map (vs := [5]) (gf := (gNm 5)) (ef := E__law_spread_2) (C__law_spread_2 names) (fun d => by simp -implicitDefEqProofs [E__law_spread_2, C__law_spread_2, ite_bind', ifB_bind, thenS_bind, Option.bind_assoc]) xs
def f__law_spread (deck_here schedule : PyData) : Option (PyData × PyData) :=
(f__law_next deck_here (.int 4)).bind fun v1 =>
(gIx (.list [(.int 1), (.int 2), (.int 1000), (.int 50000)]) v1.1).bind fun v2 =>
(rng1 (.int 8)).bind fun v3 =>
(mapS v3 (C__law_spread_1 v2)).bind fun v5 =>
(f__law_shuffled v1.2 (.list v5)).bind fun v6 =>
(seqD schedule).bind fun v7 =>
(mapS v7 (C__law_spread_2 v6.1)).bind fun v9 =>
(gTuple (.list v9)).bind fun v10 =>
some (v10, v6.2)
theorem f__law_spread_eq (deck_here schedule : PyData) : F__law_spread [deck_here, schedule] = (f__law_spread deck_here schedule).bind fun r => some (r.1, [r.2, schedule]) := by
  simp -implicitDefEqProofs [F__law_spread, S__law_spread, f__law_spread, C__law_spread_1_eq, C__law_spread_2_eq, f__law_next_eq, f__law_shuffled_eq, ite_bind', ifB_bind, thenS_bind, Option.bind_assoc]
def C__law_reasons_1 (side : PyData) (d : PyData) : Option (PyData) :=
some (.tuple [side, d])
theorem C__law_reasons_1_eq (roster found side people person : PyData) (xs : List PyData) : lcL [4] (gNm 4) bYes E__law_reasons_1 xs [roster, found, side, people, person] = (mapS xs (C__law_reasons_1 side)).bind fun r => some (r, [roster, found, side, people, person]) :=
  lc_map (vs := [4]) (gf := (gNm 4)) (ef := E__law_reasons_1) (C__law_reasons_1 side) (fun d => by simp -implicitDefEqProofs [E__law_reasons_1, C__law_reasons_1, ite_bind', ifB_bind, thenS_bind, Option.bind_assoc]) xs
def L__law_reasons_1 (d : PyData) (s : PyData) : Option PyData :=
(un2 d).bind fun v4 =>
(gAdd v4.2 (.int 1)).bind fun v5 =>
(rng1 v5).bind fun v6 =>
(mapS v6 (C__law_reasons_1 v4.1)).bind fun v7 =>
(gExt s (.list v7)).bind fun v8 =>
some v8
theorem L__law_reasons_1_eq (roster found person : PyData) (xs : List PyData) : forL (gTp 2 (gsCons (gNm 2) (gsCons (gNm 3) gsNil))) B__law_reasons_1 xs [roster, found, .none, .none, person] = (foldS xs (L__law_reasons_1) found).bind fun r => some (.nx, [roster, r, .none, .none, person]) :=
  for_fold (gf := (gTp 2 (gsCons (gNm 2) (gsCons (gNm 3) gsNil)))) (sf := B__law_reasons_1) (fun s : PyData => [roster, s, .none, .none, person]) (L__law_reasons_1) (fun d s => by simp -implicitDefEqProofs [B__law_reasons_1, L__law_reasons_1, C__law_reasons_1_eq, ite_bind', ifB_bind, thenS_bind, Option.bind_assoc]) xs found
def f__law_reasons (roster : PyData) : Option PyData :=
(prt (.int 2)).bind fun v1 =>
(gSl roster none v1).bind fun v2 =>
(zipS (.tuple [(.str "teacher"), (.str "group")]) v2).bind fun v3 =>
(foldS v3 (L__law_reasons_1) (.list [(.tuple [(.str "rooms")]), (.tuple [(.str "none")])])).bind fun v9 =>
some v9
theorem f__law_reasons_eq (roster : PyData) : F__law_reasons [roster] = (f__law_reasons roster).bind fun r => some (r, [roster]) := by
  simp -implicitDefEqProofs [F__law_reasons, S__law_reasons, f__law_reasons, L__law_reasons_1_eq, ite_bind', ifB_bind, thenS_bind, Option.bind_assoc]
def f__law_odd (deck_here : PyData) : Option (PyData × PyData) :=
(gNeg (.int 1)).bind fun v1 =>
(gPow (.int 10) (.int 6)).bind fun v2 =>
(gAdd v2 (.int 1)).bind fun v3 =>
(gPow (.int 10) (.int 29)).bind fun v4 =>
(gAdd (.list [.none, (.bool true), (.bool false), (.int 0), (.int 1), v1, (.int 2), v3, v4, (.str ""), (.str "none"), (.str "rooms"), (.str "teacher"), (.str "group"), (.tuple []), (.tuple [(.int 0)])]) (.list [(.list []), (.dict []), (.list [(.int 0)]), (.dict [(.str "a", .int 1)]), (.tuple [(.bool true)]), (.tuple [(.tuple []), (.tuple [])]), (.tuple [(.tuple []), (.tuple [(.str "none")])]), (.tuple [(.tuple [])]), (.tuple [(.str "rooms")])])).bind fun v5 =>
(f__law_next deck_here (.int 25)).bind fun v6 =>
(gIx v5 v6.1).bind fun v7 =>
some (v7, v6.2)
theorem f__law_odd_eq (deck_here : PyData) : F__law_odd [deck_here] = (f__law_odd deck_here).bind fun r => some (r.1, [r.2]) := by
  simp -implicitDefEqProofs [F__law_odd, S__law_odd, f__law_odd, f__law_next_eq, ite_bind', ifB_bind, thenS_bind, Option.bind_assoc]
def f__law_changed : Nat → PyData → PyData → Option (PyData × PyData)
  | 0, _, _ => none
  | n + 1, deck_here, value =>
    ((gIsa PyData.isTuple) value).bind fun v1 =>
    (gTruth v1).bind fun v2 =>
    (if v2 = true then ((gNe value (.tuple [])).bind fun v3 =>
    (asB v3).bind fun v4 =>
    (if v4 = true then ((f__law_next deck_here (.int 5)).bind fun v5 =>
    (gGt v5.1 (.int 0)).bind fun v6 =>
    (asB v6).bind fun v7 =>
    some (v7, v5.2)) else (some (false, deck_here))).bind fun v8 =>
    some (v8.1, v8.2)) else (some (false, deck_here))).bind fun v9 =>
    if v9.1 = true then ((gLen value).bind fun v10 =>
    (f__law_next v9.2 v10).bind fun v11 =>
    (prt v11.1).bind fun v12 =>
    (gSl value none v12).bind fun v13 =>
    (gIx value v11.1).bind fun v14 =>
    ((f__law_changed n) v11.2 v14).bind fun v15 =>
    (gAdd v13 (.tuple [v15.1])).bind fun v16 =>
    (gAdd v11.1 (.int 1)).bind fun v17 =>
    (prt v17).bind fun v18 =>
    (gSl value v18 none).bind fun v19 =>
    (gAdd v16 v19).bind fun v20 =>
    some (v20, v15.2)) else ((f__law_next v9.2 (.int 7)).bind fun v21 =>
    ((gIsa PyData.isTuple) value).bind fun v22 =>
    (gTruth v22).bind fun v23 =>
    (if v23 = true then ((gLt v21.1 (.int 4)).bind fun v24 =>
    (asB v24).bind fun v25 =>
    some v25) else (some false)).bind fun v26 =>
    if v26 = true then ((gNeg (.int 1)).bind fun v27 =>
    (prt v27).bind fun v28 =>
    (gSl value none v28).bind fun v29 =>
    (gNeg (.int 1)).bind fun v30 =>
    (prt v30).bind fun v31 =>
    (gSl value v31 none).bind fun v32 =>
    (gAdd value v32).bind fun v33 =>
    (gList value).bind fun v34 =>
    (gBack value).bind fun v35 =>
    (gIx (.list [v29, v33, v34, v35]) v21.1).bind fun v36 =>
    some (v36, v21.2)) else (((gIsa PyData.isInt) value).bind fun v37 =>
    (gTruth v37).bind fun v38 =>
    (if v38 = true then (((gIsa PyData.isBool) value).bind fun v39 =>
    (gTruth v39).bind fun v40 =>
    (if (!v40) = true then ((gLt v21.1 (.int 4)).bind fun v41 =>
    (asB v41).bind fun v42 =>
    some v42) else (some false)).bind fun v43 =>
    some v43) else (some false)).bind fun v44 =>
    if v44 = true then ((gAdd value (.int 1)).bind fun v45 =>
    (gSub value (.int 1)).bind fun v46 =>
    (gEq value (.int 1)).bind fun v47 =>
    (gStr value).bind fun v48 =>
    (gIx (.list [v45, v46, v47, v48]) v21.1).bind fun v49 =>
    some (v49, v21.2)) else ((f__law_odd v21.2).bind fun v50 =>
    some (v50.1, v50.2))))
theorem f__law_changed_eq : ∀ (n : Nat) (deck_here value : PyData), F__law_changed n [deck_here, value] = (f__law_changed n deck_here value).bind fun r => some (r.1, [r.2, value])
  | 0, _, _ => rfl
  | n + 1, deck_here, value => by
    have hFr := f__law_changed_eq n
    simp -implicitDefEqProofs [F__law_changed, S__law_changed, f__law_changed, f__law_next_eq, f__law_odd_eq, hFr, ite_bind', ifB_bind, thenS_bind, Option.bind_assoc]
def f__law_whole (value : PyData) : Option PyData :=
((gIsa PyData.isInt) value).bind fun v1 =>
(ifB v1 ((((gIsa PyData.isBool) value).bind fun v2 =>
(gTruth v2).bind fun v3 =>
some (.bool (!v3)))) ((some (.bool false)))).bind fun v4 =>
some v4
theorem f__law_whole_eq (value : PyData) : F__law_whole [value] = (f__law_whole value).bind fun r => some (r, [value]) := by
  simp -implicitDefEqProofs [F__law_whole, S__law_whole, f__law_whole, ite_bind', ifB_bind, thenS_bind, Option.bind_assoc]
def C__law_is_schedule_1 (d : PyData) : Option (Option PyData) :=
(f__law_whole d).bind fun v10 =>
(gTruth v10).bind fun v11 =>
(if (!v11) = true then (some true) else ((gLe (.int 0) d).bind fun v12 =>
(ifB v12 (((gPow (.int 10) (.int 6)).bind fun v13 =>
(gLe d v13).bind fun v14 =>
some v14)) ((some (.bool false)))).bind fun v15 =>
(asB v15).bind fun v16 =>
some (!v16))).bind fun v17 =>
if v17 = true then (some (some d)) else (some none)
theorem C__law_is_schedule_1_eq (roster value one_here hour k : PyData) (xs : List PyData) : lcL [3] (gNm 3) T__law_is_schedule_1 E__law_is_schedule_1 xs [roster, value, one_here, hour, k] = (filS xs (C__law_is_schedule_1)).bind fun r => some (r, [roster, value, one_here, hour, k]) :=
  lc_fil (vs := [3]) (gf := (gNm 3)) (tf := T__law_is_schedule_1) (ef := E__law_is_schedule_1) (C__law_is_schedule_1) (fun d => by simp -implicitDefEqProofs [T__law_is_schedule_1, E__law_is_schedule_1, C__law_is_schedule_1, f__law_whole_eq, ite_bind', ifB_bind, thenS_bind, Option.bind_assoc]) xs
def C__law_is_schedule_2 (roster value one_here : PyData) (d : PyData) : Option (Option PyData) :=
(gIx value d).bind fun v24 =>
(gIx value one_here).bind fun v25 =>
(gEq v24 v25).bind fun v26 =>
(asB v26).bind fun v27 =>
(if v27 = true then ((f__law_are_rivals roster d one_here).bind fun v28 =>
(gTruth v28).bind fun v29 =>
some v29) else (some false)).bind fun v30 =>
if v30 = true then (some (some d)) else (some none)
theorem C__law_is_schedule_2_eq (roster value one_here hour k : PyData) (xs : List PyData) : lcL [4] (gNm 4) T__law_is_schedule_2 E__law_is_schedule_2 xs [roster, value, one_here, hour, k] = (filS xs (C__law_is_schedule_2 roster value one_here)).bind fun r => some (r, [roster, value, one_here, hour, k]) :=
  lc_fil (vs := [4]) (gf := (gNm 4)) (tf := T__law_is_schedule_2) (ef := E__law_is_schedule_2) (C__law_is_schedule_2 roster value one_here) (fun d => by simp -implicitDefEqProofs [T__law_is_schedule_2, E__law_is_schedule_2, C__law_is_schedule_2, f__law_are_rivals_eq, ite_bind', ifB_bind, thenS_bind, Option.bind_assoc]) xs
def L__law_is_schedule_1 (roster value : PyData) (d : PyData) (s : Unit) : Option (Out × Unit) :=
(rng1 d).bind fun v23 =>
(filS v23 (C__law_is_schedule_2 roster value d)).bind fun v31 =>
(gNe (.list v31) (.list [])).bind fun v32 =>
(asB v32).bind fun v33 =>
if v33 = true then (some (.rt (.bool false), ())) else (some (.nx, ()))
theorem L__law_is_schedule_1_eq (roster value hour k : PyData) (xs : List PyData) : forL (gNm 2) B__law_is_schedule_1 xs [roster, value, .none, hour, k] = (forS xs (L__law_is_schedule_1 roster value) ()).bind fun r => thenS r (fun s' => some (.nx, [roster, value, .none, hour, k])) (fun d s' => some (.rt d, [.none, .none, .none, .none, .none])) :=
  for_ret (gf := (gNm 2)) (sf := B__law_is_schedule_1) (jr := [0, 1, 2, 3, 4]) (fun s : Unit => [roster, value, .none, hour, k]) (L__law_is_schedule_1 roster value) (fun d s => by simp -implicitDefEqProofs [B__law_is_schedule_1, L__law_is_schedule_1, C__law_is_schedule_2_eq, f__law_are_rivals_eq, ite_bind', ifB_bind, thenS_bind, Option.bind_assoc]) xs ()
def f__law_is_schedule (roster value : PyData) : Option PyData :=
((gIsa PyData.isTuple) value).bind fun v1 =>
(gTruth v1).bind fun v2 =>
(if (!v2) = true then (some true) else ((gLen value).bind fun v3 =>
(gIx roster (.int 2)).bind fun v4 =>
(gLen v4).bind fun v5 =>
(gNe v3 v5).bind fun v6 =>
(asB v6).bind fun v7 =>
some v7)).bind fun v8 =>
if v8 = true then (some (.bool false)) else ((seqD value).bind fun v9 =>
(filS v9 (C__law_is_schedule_1)).bind fun v18 =>
(gNe (.list v18) (.list [])).bind fun v19 =>
(asB v19).bind fun v20 =>
if v20 = true then (some (.bool false)) else ((gLen value).bind fun v21 =>
(rng1 v21).bind fun v22 =>
(forS v22 (L__law_is_schedule_1 roster value) ()).bind fun v34 =>
thenS v34 (fun s35 =>
some (.bool true)) (fun d37 s36 => some d37)))
theorem f__law_is_schedule_eq (roster value : PyData) : F__law_is_schedule [roster, value] = (f__law_is_schedule roster value).bind fun r => some (r, [roster, value]) := by
  simp -implicitDefEqProofs [F__law_is_schedule, S__law_is_schedule, f__law_is_schedule, C__law_is_schedule_1_eq, L__law_is_schedule_1_eq, f__law_whole_eq, f__law_are_rivals_eq, ite_bind', ifB_bind, thenS_bind, Option.bind_assoc]
def C__law_degrees_2 (side person : PyData) (d : PyData) : Option (Option PyData) :=
(gIx d side).bind fun v6 =>
(gEq v6 person).bind fun v7 =>
(asB v7).bind fun v8 =>
if v8 = true then (some (some d)) else (some none)
theorem C__law_degrees_2_eq (roster found side person row : PyData) (xs : List PyData) : lcL [4] (gNm 4) T__law_degrees_1 E__law_degrees_1 xs [roster, found, side, person, row] = (filS xs (C__law_degrees_2 side person)).bind fun r => some (r, [roster, found, side, person, row]) :=
  lc_fil (vs := [4]) (gf := (gNm 4)) (tf := T__law_degrees_1) (ef := E__law_degrees_1) (C__law_degrees_2 side person) (fun d => by simp -implicitDefEqProofs [T__law_degrees_1, E__law_degrees_1, C__law_degrees_2, ite_bind', ifB_bind, thenS_bind, Option.bind_assoc]) xs
def C__law_degrees_1 (roster side : PyData) (d : PyData) : Option (PyData) :=
(gIx roster (.int 2)).bind fun v4 =>
(seqD v4).bind fun v5 =>
(filS v5 (C__law_degrees_2 side d)).bind fun v9 =>
(gLen (.list v9)).bind fun v10 =>
some v10
theorem C__law_degrees_1_eq (roster found side person row : PyData) (xs : List PyData) : lcL [3] (gNm 3) bYes E__law_degrees_2 xs [roster, found, side, person, row] = (mapS xs (C__law_degrees_1 roster side)).bind fun r => some (r, [roster, found, side, person, row]) :=
  lc_map (vs := [3]) (gf := (gNm 3)) (ef := E__law_degrees_2) (C__law_degrees_1 roster side) (fun d => by simp -implicitDefEqProofs [E__law_degrees_2, C__law_degrees_1, C__law_degrees_2_eq, ite_bind', ifB_bind, thenS_bind, Option.bind_assoc]) xs
def L__law_degrees_1 (roster : PyData) (d : PyData) (s : PyData) : Option PyData :=
(gIx roster d).bind fun v2 =>
(rng1 v2).bind fun v3 =>
(mapS v3 (C__law_degrees_1 roster d)).bind fun v11 =>
(gApp s (.list v11)).bind fun found12 =>
some found12
theorem L__law_degrees_1_eq (roster found person row : PyData) (xs : List PyData) : forL (gNm 2) B__law_degrees_1 xs [roster, found, .none, person, row] = (foldS xs (L__law_degrees_1 roster) found).bind fun r => some (.nx, [roster, r, .none, person, row]) :=
  for_fold (gf := (gNm 2)) (sf := B__law_degrees_1) (fun s : PyData => [roster, s, .none, person, row]) (L__law_degrees_1 roster) (fun d s => by simp -implicitDefEqProofs [B__law_degrees_1, L__law_degrees_1, C__law_degrees_1_eq, ite_bind', ifB_bind, thenS_bind, Option.bind_assoc]) xs found
def f__law_degrees (roster : PyData) : Option PyData :=
(rng1 (.int 2)).bind fun v1 =>
(foldS v1 (L__law_degrees_1 roster) (.list [])).bind fun v13 =>
some v13
theorem f__law_degrees_eq (roster : PyData) : F__law_degrees [roster] = (f__law_degrees roster).bind fun r => some (r, [roster]) := by
  simp -implicitDefEqProofs [F__law_degrees, S__law_degrees, f__law_degrees, L__law_degrees_1_eq, ite_bind', ifB_bind, thenS_bind, Option.bind_assoc]
def C__law_is_reason_1 (d : PyData) : Option (Option PyData) :=
((gIsa PyData.isStr) d).bind fun v4 =>
(gTruth v4).bind fun v5 =>
if v5 = true then (some (some d)) else (some none)
theorem C__law_is_reason_1_eq (roster rooms_here hours value numbers_here part : PyData) (xs : List PyData) : lcL [5] (gNm 5) T__law_is_reason_1 E__law_is_reason_1 xs [roster, rooms_here, hours, value, numbers_here, part] = (filS xs (C__law_is_reason_1)).bind fun r => some (r, [roster, rooms_here, hours, value, numbers_here, part]) :=
  lc_fil (vs := [5]) (gf := (gNm 5)) (tf := T__law_is_reason_1) (ef := E__law_is_reason_1) (C__law_is_reason_1) (fun d => by simp -implicitDefEqProofs [T__law_is_reason_1, E__law_is_reason_1, C__law_is_reason_1, ite_bind', ifB_bind, thenS_bind, Option.bind_assoc]) xs
def f__law_is_reason (roster rooms_here hours value : PyData) : Option PyData :=
((gIsa PyData.isTuple) value).bind fun v1 =>
(gTruth v1).bind fun v2 =>
(if (!v2) = true then (some true) else ((seqD value).bind fun v3 =>
(filS v3 (C__law_is_reason_1)).bind fun v6 =>
(prt (.int 1)).bind fun v7 =>
(gSl value none v7).bind fun v8 =>
(gList v8).bind fun v9 =>
(gNeL (.list v6) v9).bind fun v10 =>
(asB v10).bind fun v11 =>
some v11)).bind fun v12 =>
if v12 = true then (some (.bool false)) else ((gEqT value (.tuple [(.str "rooms")])).bind fun v13 =>
(asB v13).bind fun v14 =>
if v14 = true then ((gSub hours (.int 1)).bind fun v15 =>
(gMul v15 rooms_here).bind fun v16 =>
(gIx roster (.int 2)).bind fun v17 =>
(gLen v17).bind fun v18 =>
(gLt v16 v18).bind fun v19 =>
some v19) else ((gLen value).bind fun v20 =>
(gNe v20 (.int 2)).bind fun v21 =>
(asB v21).bind fun v22 =>
(if v22 = true then (some true) else ((gIx value (.int 0)).bind fun v23 =>
(gNotIn v23 (.list [(.str "teacher"), (.str "group")])).bind fun v24 =>
(asB v24).bind fun v25 =>
(if v25 = true then (some true) else ((gIx value (.int 1)).bind fun v26 =>
(f__law_whole v26).bind fun v27 =>
(gTruth v27).bind fun v28 =>
some (!v28))).bind fun v29 =>
some v29)).bind fun v30 =>
if v30 = true then (some (.bool false)) else ((f__law_degrees roster).bind fun v31 =>
(gIx value (.int 0)).bind fun v32 =>
(gIndex (.list [(.str "teacher"), (.str "group")]) v32).bind fun v33 =>
(gIx v31 v33).bind fun v34 =>
(gIx value (.int 1)).bind fun v35 =>
(gLe (.int 0) v35).bind fun v36 =>
(ifB v36 (((gLen v34).bind fun v37 =>
(gLt v35 v37).bind fun v38 =>
some v38)) ((some (.bool false)))).bind fun v39 =>
(ifB v39 (((gIx value (.int 1)).bind fun v40 =>
(gIx v34 v40).bind fun v41 =>
(gEq v41 hours).bind fun v42 =>
some v42)) ((some (.bool false)))).bind fun v43 =>
some v43)))
theorem f__law_is_reason_eq (roster rooms_here hours value : PyData) : F__law_is_reason [roster, rooms_here, hours, value] = (f__law_is_reason roster rooms_here hours value).bind fun r => some (r, [roster, rooms_here, hours, value]) := by
  simp -implicitDefEqProofs [F__law_is_reason, S__law_is_reason, f__law_is_reason, C__law_is_reason_1_eq, f__law_whole_eq, f__law_degrees_eq, ite_bind', ifB_bind, thenS_bind, Option.bind_assoc]
def f__law_due (roster rooms_here value : PyData) : Option PyData :=
(gIx roster (.int 2)).bind fun v1 =>
(gEq v1 (.tuple [])).bind fun v2 =>
(asB v2).bind fun v3 =>
if v3 = true then ((gRepr value).bind fun v4 =>
(gRepr (.tuple [(.tuple []), (.tuple [(.str "none")])])).bind fun v5 =>
(gEq v4 v5).bind fun v6 =>
some v6) else (((gIsa PyData.isTuple) value).bind fun v7 =>
(gTruth v7).bind fun v8 =>
(if (!v8) = true then (some true) else ((gLen value).bind fun v9 =>
(gNe v9 (.int 2)).bind fun v10 =>
(asB v10).bind fun v11 =>
(if v11 = true then (some true) else ((gIx value (.int 0)).bind fun v12 =>
(f__law_is_schedule roster v12).bind fun v13 =>
(gTruth v13).bind fun v14 =>
some (!v14))).bind fun v15 =>
some v15)).bind fun v16 =>
if v16 = true then (some (.bool false)) else ((gIx value (.int 0)).bind fun v17 =>
(f__law_numbers v17).bind fun v18 =>
(gMax v18).bind fun v19 =>
(gLe v19 rooms_here).bind fun v20 =>
(ifB v20 (((gLen v18).bind fun v21 =>
(gIx value (.int 1)).bind fun v22 =>
(f__law_is_reason roster rooms_here v21 v22).bind fun v23 =>
some v23)) ((some (.bool false)))).bind fun v24 =>
some v24))
theorem f__law_due_eq (roster rooms_here value : PyData) : F__law_due [roster, rooms_here, value] = (f__law_due roster rooms_here value).bind fun r => some (r, [roster, rooms_here, value]) := by
  simp -implicitDefEqProofs [F__law_due, S__law_due, f__law_due, f__law_is_schedule_eq, f__law_numbers_eq, f__law_is_reason_eq, ite_bind', ifB_bind, thenS_bind, Option.bind_assoc]
def f_is_number (value low high : PyData) : Option PyData :=
((gIsa PyData.isInt) value).bind fun v1 =>
(ifB v1 ((((gIsa PyData.isBool) value).bind fun v2 =>
(gTruth v2).bind fun v3 =>
(ifB (.bool (!v3)) (((gLe low value).bind fun v4 =>
(ifB v4 (((gLe value high).bind fun v5 =>
some v5)) ((some (.bool false)))).bind fun v6 =>
some v6)) ((some (.bool false)))).bind fun v7 =>
some v7)) ((some (.bool false)))).bind fun v8 =>
some v8
theorem f_is_number_eq (value low high : PyData) : F_is_number [value, low, high] = (f_is_number value low high).bind fun r => some (r, [value, low, high]) := by
  simp -implicitDefEqProofs [F_is_number, S_is_number, f_is_number, ite_bind', ifB_bind, thenS_bind, Option.bind_assoc]
def f_is_hour (value : PyData) : Option PyData :=
(f_is_number value (.int 0) (.int 1000000)).bind fun v1 =>
some v1
theorem f_is_hour_eq (value : PyData) : F_is_hour [value] = (f_is_hour value).bind fun r => some (r, [value]) := by
  simp -implicitDefEqProofs [F_is_hour, S_is_hour, f_is_hour, f_is_number_eq, ite_bind', ifB_bind, thenS_bind, Option.bind_assoc]
def f_are_rivals (roster one other : PyData) : Option PyData :=
(gIx roster (.int 2)).bind fun v1 =>
(gIx v1 one).bind fun v2 =>
(gIx roster (.int 2)).bind fun v3 =>
(gIx v3 other).bind fun v4 =>
(gNe one other).bind fun v5 =>
(ifB v5 (((gIx v2 (.int 0)).bind fun v6 =>
(gIx v4 (.int 0)).bind fun v7 =>
(gEq v6 v7).bind fun v8 =>
(ifB v8 ((some (.bool true))) (((gIx v2 (.int 1)).bind fun v9 =>
(gIx v4 (.int 1)).bind fun v10 =>
(gEq v9 v10).bind fun v11 =>
some v11))).bind fun v12 =>
some v12)) ((some (.bool false)))).bind fun v13 =>
some v13
theorem f_are_rivals_eq (roster one other : PyData) : F_are_rivals [roster, one, other] = (f_are_rivals roster one other).bind fun r => some (r, [roster, one, other]) := by
  simp -implicitDefEqProofs [F_are_rivals, S_are_rivals, f_are_rivals, ite_bind', ifB_bind, thenS_bind, Option.bind_assoc]
def C_schedule_error_1 (d : PyData) : Option (PyData) :=
(f_is_hour d).bind fun v9 =>
some v9
theorem C_schedule_error_1_eq (roster value lessons one other hour : PyData) (xs : List PyData) : lcL [5] (gNm 5) bYes E_schedule_error_1 xs [roster, value, lessons, one, other, hour] = (mapS xs (C_schedule_error_1)).bind fun r => some (r, [roster, value, lessons, one, other, hour]) :=
  lc_map (vs := [5]) (gf := (gNm 5)) (ef := E_schedule_error_1) (C_schedule_error_1) (fun d => by simp -implicitDefEqProofs [E_schedule_error_1, C_schedule_error_1, f_is_hour_eq, ite_bind', ifB_bind, thenS_bind, Option.bind_assoc]) xs
def L_schedule_error_2 (roster value one : PyData) (d : PyData) (s : Unit) : Option (Out × Unit) :=
(gIx value one).bind fun v18 =>
(gIx value d).bind fun v19 =>
(gEq v18 v19).bind fun v20 =>
(asB v20).bind fun v21 =>
(if v21 = true then ((f_are_rivals roster one d).bind fun v22 =>
(gTruth v22).bind fun v23 =>
some v23) else (some false)).bind fun v24 =>
if v24 = true then (some (.rt (.tuple [(.str "conflict"), one, d]), ())) else (some (.nx, ()))
theorem L_schedule_error_2_eq (roster value lessons one hour : PyData) (xs : List PyData) : forL (gNm 4) B_schedule_error_1 xs [roster, value, lessons, one, .none, hour] = (forS xs (L_schedule_error_2 roster value one) ()).bind fun r => thenS r (fun s' => some (.nx, [roster, value, lessons, one, .none, hour])) (fun d s' => some (.rt d, [.none, .none, .none, .none, .none, .none])) :=
  for_ret (gf := (gNm 4)) (sf := B_schedule_error_1) (jr := [0, 1, 2, 3, 4, 5]) (fun s : Unit => [roster, value, lessons, one, .none, hour]) (L_schedule_error_2 roster value one) (fun d s => by simp -implicitDefEqProofs [B_schedule_error_1, L_schedule_error_2, f_are_rivals_eq, ite_bind', ifB_bind, thenS_bind, Option.bind_assoc]) xs ()
def L_schedule_error_1 (roster value lessons : PyData) (d : PyData) (s : Unit) : Option (Out × Unit) :=
(gAdd d (.int 1)).bind fun v16 =>
(rng2 v16 lessons).bind fun v17 =>
(forS v17 (L_schedule_error_2 roster value d) ()).bind fun v25 =>
thenS v25 (fun s26 =>
some (.nx, ())) (fun d28 s27 => some (.rt d28, ()))
theorem L_schedule_error_1_eq (roster value lessons hour : PyData) (xs : List PyData) : forL (gNm 3) B_schedule_error_2 xs [roster, value, lessons, .none, .none, hour] = (forS xs (L_schedule_error_1 roster value lessons) ()).bind fun r => thenS r (fun s' => some (.nx, [roster, value, lessons, .none, .none, hour])) (fun d s' => some (.rt d, [.none, .none, .none, .none, .none, .none])) :=
  for_ret (gf := (gNm 3)) (sf := B_schedule_error_2) (jr := [0, 1, 2, 3, 4, 5]) (fun s : Unit => [roster, value, lessons, .none, .none, hour]) (L_schedule_error_1 roster value lessons) (fun d s => by simp -implicitDefEqProofs [B_schedule_error_2, L_schedule_error_1, L_schedule_error_2_eq, f_are_rivals_eq, ite_bind', ifB_bind, thenS_bind, Option.bind_assoc]) xs ()
def f_schedule_error (roster value : PyData) : Option PyData :=
(gIx roster (.int 2)).bind fun v1 =>
(gLen v1).bind fun v2 =>
((gIsa PyData.isTuple) value).bind fun v3 =>
(gTruth v3).bind fun v4 =>
(if (!v4) = true then (some true) else ((gLen value).bind fun v5 =>
(gNe v5 v2).bind fun v6 =>
(asB v6).bind fun v7 =>
(if v7 = true then (some true) else ((seqD value).bind fun v8 =>
(mapS v8 (C_schedule_error_1)).bind fun v10 =>
(gAll (.list v10)).bind fun v11 =>
(gTruth v11).bind fun v12 =>
some (!v12))).bind fun v13 =>
some v13)).bind fun v14 =>
if v14 = true then (some (.tuple [(.str "hours")])) else ((rng1 v2).bind fun v15 =>
(forS v15 (L_schedule_error_1 roster value v2) ()).bind fun v29 =>
thenS v29 (fun s30 =>
some .none) (fun d32 s31 => some d32))
theorem f_schedule_error_eq (roster value : PyData) : F_schedule_error [roster, value] = (f_schedule_error roster value).bind fun r => some (r, [roster, value]) := by
  simp -implicitDefEqProofs [F_schedule_error, S_schedule_error, f_schedule_error, C_schedule_error_1_eq, L_schedule_error_1_eq, f_is_hour_eq, f_are_rivals_eq, ite_bind', ifB_bind, thenS_bind, Option.bind_assoc]
def f_is_schedule (roster value : PyData) : Option PyData :=
(f_schedule_error roster value).bind fun v1 =>
(gIs v1 .none).bind fun v2 =>
some v2
theorem f_is_schedule_eq (roster value : PyData) : F_is_schedule [roster, value] = (f_is_schedule roster value).bind fun r => some (r, [roster, value]) := by
  simp -implicitDefEqProofs [F_is_schedule, S_is_schedule, f_is_schedule, f_schedule_error_eq, ite_bind', ifB_bind, thenS_bind, Option.bind_assoc]
def C_lessons_of_1 (person place : PyData) (d : PyData) : Option (Option PyData) :=
(un2 d).bind fun v6 =>
(gIx v6.2 place).bind fun v7 =>
(gEq v7 person).bind fun v8 =>
(asB v8).bind fun v9 =>
if v9 = true then (some (some v6.1)) else (some none)
theorem C_lessons_of_1_eq (roster side person place index lesson : PyData) (xs : List PyData) : lcL [4, 5] (gTp 2 (gsCons (gNm 4) (gsCons (gNm 5) gsNil))) T_lessons_of_1 E_lessons_of_1 xs [roster, side, person, place, index, lesson] = (filS xs (C_lessons_of_1 person place)).bind fun r => some (r, [roster, side, person, place, index, lesson]) :=
  lc_fil (vs := [4, 5]) (gf := (gTp 2 (gsCons (gNm 4) (gsCons (gNm 5) gsNil)))) (tf := T_lessons_of_1) (ef := E_lessons_of_1) (C_lessons_of_1 person place) (fun d => by simp -implicitDefEqProofs [T_lessons_of_1, E_lessons_of_1, C_lessons_of_1, ite_bind', ifB_bind, thenS_bind, Option.bind_assoc]) xs
def f_lessons_of (roster side person : PyData) : Option PyData :=
(gEq side (.str "teacher")).bind fun v1 =>
(asB v1).bind fun v2 =>
(if v2 = true then (some (.int 0)) else (some (.int 1))).bind fun v3 =>
(gIx roster (.int 2)).bind fun v4 =>
(gEn v4).bind fun v5 =>
(filS v5 (C_lessons_of_1 person v3)).bind fun v10 =>
some (.list v10)
theorem f_lessons_of_eq (roster side person : PyData) : F_lessons_of [roster, side, person] = (f_lessons_of roster side person).bind fun r => some (r, [roster, side, person]) := by
  simp -implicitDefEqProofs [F_lessons_of, S_lessons_of, f_lessons_of, C_lessons_of_1_eq, ite_bind', ifB_bind, thenS_bind, Option.bind_assoc]
def C_degrees_1 (roster : PyData) (d : PyData) : Option (PyData) :=
(f_lessons_of roster (.str "teacher") d).bind fun v3 =>
(gLen v3).bind fun v4 =>
some v4
theorem C_degrees_1_eq (roster by_teacher person : PyData) (xs : List PyData) : lcL [2] (gNm 2) bYes E_degrees_1 xs [roster, by_teacher, person] = (mapS xs (C_degrees_1 roster)).bind fun r => some (r, [roster, by_teacher, person]) :=
  lc_map (vs := [2]) (gf := (gNm 2)) (ef := E_degrees_1) (C_degrees_1 roster) (fun d => by simp -implicitDefEqProofs [E_degrees_1, C_degrees_1, f_lessons_of_eq, ite_bind', ifB_bind, thenS_bind, Option.bind_assoc]) xs
def C_degrees_2 (roster : PyData) (d : PyData) : Option (PyData) :=
(f_lessons_of roster (.str "group") d).bind fun v9 =>
(gLen v9).bind fun v10 =>
some v10
theorem C_degrees_2_eq (roster by_teacher person : PyData) (xs : List PyData) : lcL [2] (gNm 2) bYes E_degrees_2 xs [roster, by_teacher, person] = (mapS xs (C_degrees_2 roster)).bind fun r => some (r, [roster, by_teacher, person]) :=
  lc_map (vs := [2]) (gf := (gNm 2)) (ef := E_degrees_2) (C_degrees_2 roster) (fun d => by simp -implicitDefEqProofs [E_degrees_2, C_degrees_2, f_lessons_of_eq, ite_bind', ifB_bind, thenS_bind, Option.bind_assoc]) xs
def f_degrees (roster : PyData) : Option PyData :=
(gIx roster (.int 0)).bind fun v1 =>
(rng1 v1).bind fun v2 =>
(mapS v2 (C_degrees_1 roster)).bind fun v5 =>
(gTuple (.list v5)).bind fun v6 =>
(gIx roster (.int 1)).bind fun v7 =>
(rng1 v7).bind fun v8 =>
(mapS v8 (C_degrees_2 roster)).bind fun v11 =>
(gTuple (.list v11)).bind fun v12 =>
some (.tuple [v6, v12])
theorem f_degrees_eq (roster : PyData) : F_degrees [roster] = (f_degrees roster).bind fun r => some (r, [roster]) := by
  simp -implicitDefEqProofs [F_degrees, S_degrees, f_degrees, C_degrees_1_eq, C_degrees_2_eq, f_lessons_of_eq, ite_bind', ifB_bind, thenS_bind, Option.bind_assoc]
def f_is_reason (roster rooms hours value : PyData) : Option PyData :=
((gIsa PyData.isTuple) value).bind fun v1 =>
(gTruth v1).bind fun v2 =>
(if (!v2) = true then (some true) else ((gEq value (.tuple [])).bind fun v3 =>
(asB v3).bind fun v4 =>
(if v4 = true then (some true) else ((gIx value (.int 0)).bind fun v5 =>
((gIsa PyData.isStr) v5).bind fun v6 =>
(gTruth v6).bind fun v7 =>
some (!v7))).bind fun v8 =>
some v8)).bind fun v9 =>
if v9 = true then (some (.bool false)) else ((gEqT value (.tuple [.str "rooms"])).bind fun v10 =>
(asB v10).bind fun v11 =>
if v11 = true then ((gSub hours (.int 1)).bind fun v12 =>
(gMul v12 rooms).bind fun v13 =>
(gIx roster (.int 2)).bind fun v14 =>
(gLen v14).bind fun v15 =>
(gLt v13 v15).bind fun v16 =>
some v16) else ((gLen value).bind fun v17 =>
(gNe v17 (.int 2)).bind fun v18 =>
(asB v18).bind fun v19 =>
(if v19 = true then (some true) else ((gIx value (.int 0)).bind fun v20 =>
(gNotIn v20 (.tuple [(.str "teacher"), (.str "group")])).bind fun v21 =>
(asB v21).bind fun v22 =>
some v22)).bind fun v23 =>
if v23 = true then (some (.bool false)) else ((f_degrees roster).bind fun v24 =>
(gIx value (.int 0)).bind fun v25 =>
(gEq v25 (.str "group")).bind fun v26 =>
(gInt v26).bind fun v27 =>
(gIx v24 v27).bind fun v28 =>
(gIx value (.int 1)).bind fun v29 =>
(gLen v28).bind fun v30 =>
(gSub v30 (.int 1)).bind fun v31 =>
(f_is_number v29 (.int 0) v31).bind fun v32 =>
(ifB v32 (((gIx value (.int 1)).bind fun v33 =>
(gIx v28 v33).bind fun v34 =>
(gEq v34 hours).bind fun v35 =>
some v35)) ((some (.bool false)))).bind fun v36 =>
some v36)))
theorem f_is_reason_eq (roster rooms hours value : PyData) : F_is_reason [roster, rooms, hours, value] = (f_is_reason roster rooms hours value).bind fun r => some (r, [roster, rooms, hours, value]) := by
  simp -implicitDefEqProofs [F_is_reason, S_is_reason, f_is_reason, f_degrees_eq, f_is_number_eq, ite_bind', ifB_bind, thenS_bind, Option.bind_assoc]
def C_rooms_holds_1 (schedule : PyData) (d : PyData) : Option (PyData) :=
(gCount schedule d).bind fun v17 =>
some v17
theorem C_rooms_holds_1_eq (roster rooms value schedule reason numbers hour : PyData) (xs : List PyData) : lcL [6] (gNm 6) bYes E_rooms_holds_1 xs [roster, rooms, value, schedule, reason, numbers, hour] = (mapS xs (C_rooms_holds_1 schedule)).bind fun r => some (r, [roster, rooms, value, schedule, reason, numbers, hour]) :=
  lc_map (vs := [6]) (gf := (gNm 6)) (ef := E_rooms_holds_1) (C_rooms_holds_1 schedule) (fun d => by simp -implicitDefEqProofs [E_rooms_holds_1, C_rooms_holds_1, ite_bind', ifB_bind, thenS_bind, Option.bind_assoc]) xs
def f_rooms_holds (roster rooms value : PyData) : Option PyData :=
((gIsa PyData.isTuple) value).bind fun v1 =>
(gTruth v1).bind fun v2 =>
(if (!v2) = true then (some true) else ((gLen value).bind fun v3 =>
(gNe v3 (.int 2)).bind fun v4 =>
(asB v4).bind fun v5 =>
(if v5 = true then (some true) else ((gIx value (.int 0)).bind fun v6 =>
(f_is_schedule roster v6).bind fun v7 =>
(gTruth v7).bind fun v8 =>
some (!v8))).bind fun v9 =>
some v9)).bind fun v10 =>
if v10 = true then (some (.bool false)) else ((un2 value).bind fun v11 =>
(gEq v11.1 (.tuple [])).bind fun v12 =>
(asB v12).bind fun v13 =>
if v13 = true then ((gEqT v11.2 (.tuple [.str "none"])).bind fun v14 =>
some v14) else ((gSortSet v11.1).bind fun v15 =>
(seqD v15).bind fun v16 =>
(mapS v16 (C_rooms_holds_1 v11.1)).bind fun v18 =>
(gMax (.list v18)).bind fun v19 =>
(gLe v19 rooms).bind fun v20 =>
(ifB v20 (((gLen (.list v18)).bind fun v21 =>
(f_is_reason roster rooms v21 v11.2).bind fun v22 =>
some v22)) ((some (.bool false)))).bind fun v23 =>
some v23))
theorem f_rooms_holds_eq (roster rooms value : PyData) : F_rooms_holds [roster, rooms, value] = (f_rooms_holds roster rooms value).bind fun r => some (r, [roster, rooms, value]) := by
  simp -implicitDefEqProofs [F_rooms_holds, S_rooms_holds, f_rooms_holds, C_rooms_holds_1_eq, f_is_schedule_eq, f_is_reason_eq, ite_bind', ifB_bind, thenS_bind, Option.bind_assoc]
def C_law_1 (schedule : PyData) (d : PyData) : Option (PyData) :=
some (.tuple [schedule, d])
theorem C_law_1_eq (script deck_here turn roster schedule most rooms_here plans values k pair value kept due_here reason : PyData) (xs : List PyData) : lcL [14] (gNm 14) bYes E_law_1 xs [script, deck_here, turn, roster, schedule, most, rooms_here, plans, values, k, pair, value, kept, due_here, reason] = (mapS xs (C_law_1 schedule)).bind fun r => some (r, [script, deck_here, turn, roster, schedule, most, rooms_here, plans, values, k, pair, value, kept, due_here, reason]) :=
  lc_map (vs := [14]) (gf := (gNm 14)) (ef := E_law_1) (C_law_1 schedule) (fun d => by simp -implicitDefEqProofs [E_law_1, C_law_1, ite_bind', ifB_bind, thenS_bind, Option.bind_assoc]) xs
def L_law_2 (roster plans : PyData) (d : PyData) (s : PyData × PyData) : Option (PyData × PyData) :=
(f__law_one s.1 plans).bind fun v26 =>
(f__law_reasons roster).bind fun v27 =>
(f__law_one v26.2 v27).bind fun v28 =>
((f__law_changed 12) v28.2 (.tuple [v26.1, v28.1])).bind fun v29 =>
((f__law_changed 12) v29.2 (.tuple [v26.1, v28.1])).bind fun v30 =>
((f__law_changed 12) v30.2 v30.1).bind fun v31 =>
(gAdd s.2 (.list [(.tuple [v26.1, v28.1]), v29.1, v31.1])).bind fun v32 =>
some (v31.2, v32)
theorem L_law_2_eq (script deck_here turn roster schedule most rooms_here plans values value kept due_here reason : PyData) (xs : List PyData) : forL (gNm 9) B_law_1 xs [script, deck_here, turn, roster, schedule, most, rooms_here, plans, values, .none, .none, value, kept, due_here, reason] = (foldS xs (L_law_2 roster plans) (deck_here, values)).bind fun r => some (.nx, [script, r.1, turn, roster, schedule, most, rooms_here, plans, r.2, .none, .none, value, kept, due_here, reason]) :=
  for_fold (gf := (gNm 9)) (sf := B_law_1) (fun s : PyData × PyData => [script, s.1, turn, roster, schedule, most, rooms_here, plans, s.2, .none, .none, value, kept, due_here, reason]) (L_law_2 roster plans) (fun d s => by simp -implicitDefEqProofs [B_law_1, L_law_2, f__law_one_eq, f__law_reasons_eq, f__law_changed_eq, ite_bind', ifB_bind, thenS_bind, Option.bind_assoc]) xs (deck_here, values)
def L_law_3 (roster rooms_here : PyData) (d : PyData) (s : Unit) : Option (Out × Unit) :=
(gRepr (.tuple [roster, rooms_here, d])).bind fun v37 =>
(f__law_due roster rooms_here d).bind fun v38 =>
(gRepr v38).bind fun v39 =>
(f_rooms_holds roster rooms_here d).bind fun v40 =>
(gRepr v40).bind fun v41 =>
(gNe v41 v39).bind fun v42 =>
(asB v42).bind fun v43 =>
(if v43 = true then (some true) else ((gRepr (.tuple [roster, rooms_here, d])).bind fun v44 =>
(gNe v44 v37).bind fun v45 =>
(asB v45).bind fun v46 =>
some v46)).bind fun v47 =>
if v47 = true then (some (.rt (.bool false), ())) else (some (.nx, ()))
theorem L_law_3_eq (script deck_here turn roster schedule most rooms_here plans values k pair reason : PyData) (xs : List PyData) : forL (gNm 11) B_law_2 xs [script, deck_here, turn, roster, schedule, most, rooms_here, plans, values, k, pair, .none, .none, .none, reason] = (forS xs (L_law_3 roster rooms_here) ()).bind fun r => thenS r (fun s' => some (.nx, [script, deck_here, turn, roster, schedule, most, rooms_here, plans, values, k, pair, .none, .none, .none, reason])) (fun d s' => some (.rt d, [.none, .none, .none, .none, .none, .none, .none, .none, .none, .none, .none, .none, .none, .none, .none])) :=
  for_ret (gf := (gNm 11)) (sf := B_law_2) (jr := [0, 1, 2, 3, 4, 5, 6, 7, 8, 9, 10, 11, 12, 13, 14]) (fun s : Unit => [script, deck_here, turn, roster, schedule, most, rooms_here, plans, values, k, pair, .none, .none, .none, reason]) (L_law_3 roster rooms_here) (fun d s => by simp -implicitDefEqProofs [B_law_2, L_law_3, f__law_due_eq, f_rooms_holds_eq, ite_bind', ifB_bind, thenS_bind, Option.bind_assoc]) xs ()
def L_law_1 (d : PyData) (s : PyData) : Option (Out × PyData) :=
(f__law_planned s (.int 16)).bind fun v3 =>
(un2L v3.1).bind fun v4 =>
(f__law_next v3.2 (.int 6)).bind fun v5 =>
(gEq v5.1 (.int 0)).bind fun v6 =>
(asB v6).bind fun v7 =>
(if v7 = true then ((gIx v4.1 (.int 0)).bind fun v8 =>
(gIx v4.1 (.int 1)).bind fun v9 =>
(un2 (.tuple [(.tuple [v8, v9, (.tuple [])]), (.tuple [])])).bind fun v10 =>
some (v10.1, v10.2)) else (some (v4.1, v4.2))).bind fun v11 =>
(f__law_numbers v11.2).bind fun v12 =>
(gAdd v12 (.list [(.int 1)])).bind fun v13 =>
(gMax v13).bind fun v14 =>
(gAdd v14 (.int 1)).bind fun v15 =>
(gSub v14 (.int 1)).bind fun v16 =>
(gMax2 (.int 1) v16).bind fun v17 =>
(f__law_rooms v5.2).bind fun v18 =>
(f__law_one v18.2 (.list [v14, v14, v15, v17, v18.1])).bind fun v19 =>
(f__law_compact v19.2 v11.1).bind fun v20 =>
(f__law_spread v20.2 v11.2).bind fun v21 =>
(f__law_reasons v11.1).bind fun v22 =>
(seqD v22).bind fun v23 =>
(mapS v23 (C_law_1 v11.2)).bind fun v24 =>
(rng1 (.int 12)).bind fun v25 =>
(foldS v25 (L_law_2 v11.1 (.list [v11.2, v20.1, v21.1])) (v21.2, (.list v24))).bind fun v33 =>
(f__law_odd v33.1).bind fun v34 =>
(gAdd v33.2 (.list [v34.1])).bind fun v35 =>
(seqD v35).bind fun v36 =>
(forS v36 (L_law_3 v11.1 v19.1) ()).bind fun v48 =>
thenS v48 (fun s49 =>
some (.nx, v34.2)) (fun d51 s50 => some (.rt d51, v34.2))
theorem L_law_1_eq (script deck_here reason : PyData) (xs : List PyData) : forL (gNm 2) B_law_3 xs [script, deck_here, .none, .none, .none, .none, .none, .none, .none, .none, .none, .none, .none, .none, reason] = (forS xs (L_law_1) deck_here).bind fun r => thenS r (fun s' => some (.nx, [script, s', .none, .none, .none, .none, .none, .none, .none, .none, .none, .none, .none, .none, reason])) (fun d s' => some (.rt d, [.none, .none, .none, .none, .none, .none, .none, .none, .none, .none, .none, .none, .none, .none, .none])) :=
  for_ret (gf := (gNm 2)) (sf := B_law_3) (jr := [0, 1, 2, 3, 4, 5, 6, 7, 8, 9, 10, 11, 12, 13, 14]) (fun s : PyData => [script, s, .none, .none, .none, .none, .none, .none, .none, .none, .none, .none, .none, .none, reason]) (L_law_1) (fun d s => by simp -implicitDefEqProofs [B_law_3, L_law_1, C_law_1_eq, L_law_2_eq, L_law_3_eq, f__law_planned_eq, f__law_next_eq, f__law_numbers_eq, f__law_one_eq, f__law_rooms_eq, f__law_compact_eq, f__law_spread_eq, f__law_reasons_eq, f__law_changed_eq, f__law_odd_eq, f__law_due_eq, f_rooms_holds_eq, ite_bind', ifB_bind, thenS_bind, Option.bind_assoc]) xs deck_here
def K_law_1 : Option PyData :=
some (.bool true)
theorem K_law_1_eq (script deck_here turn roster schedule most rooms_here plans values k pair value kept due_here reason i0' : PyData) : ((R_law_1 [script, deck_here, turn, roster, schedule, most, rooms_here, plans, values, k, pair, value, kept, due_here, reason]).bind fun p => retR [.q] [i0'] p) = (K_law_1).bind fun r => some (r, [i0']) := by
  simp -implicitDefEqProofs [R_law_1, K_law_1, ite_bind', ifB_bind, thenS_bind, Option.bind_assoc]
def K_law_2 (deck_here : PyData) : Option PyData :=
(rng1 (.int 8)).bind fun v2 =>
(forS v2 (L_law_1) deck_here).bind fun v52 =>
thenS v52 (fun s53 =>
K_law_1) (fun d55 s54 => some d55)
theorem K_law_2_eq (script deck_here turn roster schedule most rooms_here plans values k pair value kept due_here reason i0' : PyData) : ((R_law_2 [script, deck_here, turn, roster, schedule, most, rooms_here, plans, values, k, pair, value, kept, due_here, reason]).bind fun p => retR [.q] [i0'] p) = (K_law_2 deck_here).bind fun r => some (r, [i0']) := by
  simp -implicitDefEqProofs [R_law_2, K_law_2, L_law_1_eq, K_law_1_eq, f__law_planned_eq, f__law_next_eq, f__law_numbers_eq, f__law_one_eq, f__law_rooms_eq, f__law_compact_eq, f__law_spread_eq, f__law_reasons_eq, f__law_changed_eq, f__law_odd_eq, f__law_due_eq, f_rooms_holds_eq, ite_bind', ifB_bind, thenS_bind, Option.bind_assoc]
def f_law (script : PyData) : Option PyData :=
(f__law_deck script).bind fun v1 =>
K_law_2 v1
theorem f_law_eq (script : PyData) : F_law [script] = (f_law script).bind fun r => some (r, [script]) := by
  simp -implicitDefEqProofs [F_law, S_law, f_law, K_law_2_eq, f__law_deck_eq, f__law_planned_eq, f__law_next_eq, f__law_numbers_eq, f__law_one_eq, f__law_rooms_eq, f__law_compact_eq, f__law_spread_eq, f__law_reasons_eq, f__law_changed_eq, f__law_odd_eq, f__law_due_eq, f_rooms_holds_eq, ite_bind', ifB_bind, thenS_bind, Option.bind_assoc]
end LK

namespace LK
open PySem L2 PySem.Spec DL
/-! ### the cells (_law_deck, _law_next; decks of four) -/
def nums (xs : List Int) : List PyData := xs.map .int
def deckD (as : List Int) (c t z : Int) : PyData := .list [.list (nums as), .int c, .int t, .int z]
def Deck (k : Nat) (d : PyData) : Prop := ∃ (as : List Int) (c t z : Int), d = deckD as c t z ∧ (∀ a ∈ as, 0 ≤ a) ∧ as.length ≤ 63 ∧ 0 ≤ c ∧ 0 ≤ t ∧ t ≤ k ∧ 0 ≤ z ∧ z < 2147483648
theorem Deck.mono {k k' : Nat} {d : PyData} (h : Deck k d) (l : k ≤ k') : Deck k' d := by
  obtain ⟨as, c, t, z, h1, h2, h3, h4, h5, h6, h7⟩ := h
  exact ⟨as, c, t, z, h1, h2, h3, h4, h5, by omega, h7⟩
def absI (i : Int) : Int := if i < 0 then -i else i
@[simp] theorem at3 {α : Type} {a b c d : α} {l : List α} : atI (a :: b :: c :: d :: l) 3 = some d := by
  have : atI (a :: b :: c :: d :: l) ((3 : Nat) : Int) = some d := atI_nat rfl
  exact this
@[simp] theorem ixn3 {n : Nat} : ixN (n + 1 + 1 + 1 + 1) 3 = some 3 := ixN_nat (j := 3) (by omega)
theorem deck_ok (ns : List Int) (h : ns.length ≤ 63) : ∃ d, f__law_deck (.list (ns.map .int)) = some d ∧ Deck 0 d := by
  have h1 : mapS (ns.map .int) C__law_deck_1 = some (ns.map fun i => .int (absI i)) := mapS_of fun i _ => rfl
  have e1 : gSlL (.list (ns.map .int)) none (some ((63 : Nat) : Int)) = some (.list (cutD (ns.map PyData.int) none (some ((63 : Nat) : Int)))) := rfl
  rw [cut_take, List.take_of_length_le (by rw [List.length_map]; exact h)] at e1
  have e1' : gSlL (.list (ns.map .int)) none (some 63) = some (.list (ns.map .int)) := e1
  have e2 : gLenL (.list (ns.map .int)) = some (.int (((ns.map PyData.int).length : Nat) : Int)) := rfl
  have e3 : (ns.map fun i => PyData.int (absI i)) = nums (ns.map absI) := by rw [nums, List.map_map]; rfl
  obtain ⟨q, hq⟩ : ∃ q : Int, q = (((ns.map PyData.int).length : Nat) : Int) := ⟨_, rfl⟩
  have hq1 : 0 ≤ q ∧ q ≤ 63 := by rw [hq, List.length_map]; omega
  rw [← hq] at e2
  have m1 : gMul (.int 37) (.int q) = some (.int (37 * q)) := xMul (.inl (by decide))
  refine ⟨deckD (ns.map absI) 0 0 (11 + 37 * q), ?_, _, _, _, _, rfl, fun a ha => ?_, by rw [List.length_map]; exact h, by decide, by decide, by decide, by omega, by omega⟩
  · simp -implicitDefEqProofs only [f__law_deck, e1', Option.bind_some, xSeqL, h1, e2, m1, xAdd, e3]
    rfl
  · obtain ⟨i, _, rfl⟩ := List.mem_map.mp ha
    unfold absI
    split <;> omega
theorem next_loop : ∀ (as : List Int) (c t z : Int) (n : Nat), as.length < n → (∀ a ∈ as, 0 ≤ a) → 0 ≤ c → 0 ≤ z → z < 2147483648 →
    ∃ (as' : List Int) (c' z' : Int), whS n WL__law_next_1 L__law_next_1 (deckD as c t z) = some (deckD as' c' t z') ∧ (∀ a ∈ as', 0 ≤ a) ∧ as'.length ≤ as.length ∧ 0 ≤ c' ∧ 0 ≤ z' ∧ z' < 2147483648 := by
  intro as
  induction as with
  | nil =>
    intro c t z n hn ha hc hz hz1
    cases n with
    | zero => omega
    | succ n =>
      have hw : WL__law_next_1 (deckD [] c t z) = some false := by
        have p : PyData.plainAll (nums []) = true := rfl
        simp [WL__law_next_1, deckD, nums]
      exact ⟨[], c, z, whS_end hw, ha, Nat.le_refl _, hc, hz, hz1⟩
  | cons a as ih =>
    intro c t z n hn ha hc hz hz1
    cases n with
    | zero => omega
    | succ n =>
      by_cases h0 : c = 0
      · subst h0
        have hpl : PyData.plainAll (nums (a :: as)) = true := plain_map fun _ => rfl
        have hw : WL__law_next_1 (deckD (a :: as) 0 t z) = some true := by
          simp [WL__law_next_1, deckD, hpl]
          simp [nums]
        have a0 := ha a (List.mem_cons_self ..)
        obtain ⟨z', hz', hz0, hz2⟩ : ∃ z', (z * 48271 + a + 7) % 2147483647 = z' ∧ 0 ≤ z' ∧ z' < 2147483648 := by
          refine ⟨_, rfl, Int.emod_nonneg _ (by decide), ?_⟩
          have := Int.emod_lt_of_pos (z * 48271 + a + 7) (show (0 : Int) < 2147483647 by decide)
          omega
        obtain ⟨c', hc', hc0⟩ : ∃ c', c' = a * (if (10 : Int) ^ 18 ≤ a then 1 else 0) ∧ 0 ≤ c' := ⟨_, rfl, by split <;> omega⟩
        have hb : L__law_next_1 (deckD (a :: as) 0 t z) = some (deckD as c' t z') := by
          have i0 : itemD (deckD (a :: as) 0 t z) (.int 0) = some (.list (nums (a :: as))) := by simp [deckD]
          have i1 : gPopAt (.list (nums (a :: as))) (.int 0) = some (.int a, .list (nums as)) := by simp [gPopAt, nums]
          have i2 : setD (deckD (a :: as) 0 t z) (.int 0) (.list (nums as)) = deckD as 0 t z := by simp [setD, deckD]
          have i3 : gIx (deckD as 0 t z) (.int 3) = some (.int z) := by simp [deckD]
          have i4 : ∀ x : PyData, gSet (deckD as 0 t z) (.int 3) x = some (.list [.list (nums as), .int 0, .int t, x]) := fun x => by simp [gSet, deckD]
          have i5 : ∀ x y : PyData, gSet (.list [.list (nums as), .int 0, .int t, x]) (.int 1) y = some (.list [.list (nums as), y, .int t, x]) := fun x y => by simp [gSet]
          have e10 : gPow (.int 10) (.int 18) = some (.int (10 ^ 18)) := xPow (by decide) (by decide) (by decide)
          have m1 : gMul (.int z) (.int 48271) = some (.int (z * 48271)) := xMul (.inr (by decide))
          have m2 : ∀ b : Bool, gInt (.bool b) = some (.int (if b = true then 1 else 0)) := fun b => by cases b <;> rfl
          have m3 : gMul (.int a) (.int (if decide ((10 : Int) ^ 18 ≤ a) = true then 1 else 0)) = some (.int c') := by
            rw [xMul (.inr (by split <;> decide)), hc']
            congr 3
            by_cases h : (10 : Int) ^ 18 ≤ a
            · rw [if_pos (decide_eq_true h), if_pos h]
            · rw [if_neg (by simpa using h), if_neg h]
          have k1 : gMod (.int (z * 48271 + a + 7)) (.int 2147483647) = some (.int ((z * 48271 + a + 7) % 2147483647)) := xMod (by decide)
          simp -implicitDefEqProofs only [L__law_next_1, i0, i1, i2, i3, i4, i5, e10, m1, m2, m3, Option.bind_some, scInt, grd_true, xAdd, k1, xGe]
          rw [hz']
          rfl
        rw [whS_step hw hb]
        have := ih c' t z' n (by simpa using hn) (fun b hb => ha b (List.mem_cons_of_mem _ hb)) hc0 hz0 hz2
        obtain ⟨as', c2, z2, h1, h2, h3, h4⟩ := this
        exact ⟨as', c2, z2, h1, h2, by rw [List.length_cons]; omega, h4⟩
      · have hw : WL__law_next_1 (deckD (a :: as) c t z) = some false := by
          simp [WL__law_next_1, deckD, h0]
        exact ⟨a :: as, c, z, whS_end hw, ha, Nat.le_refl _, hc, hz, hz1⟩
theorem next_ok {k : Nat} {d : PyData} (hd : Deck k d) (hk : k ≤ 1000000000) (m : Int) (hm : 0 < m) (hm2 : m < 1073741824) : ∃ r d', f__law_next d (.int m) = some (.int r, d') ∧ Deck (k + 1) d' ∧ 0 ≤ r ∧ r < m := by
  obtain ⟨as, c, t, z, rfl, ha, hl, hc, ht, htk, hz, hz1⟩ := hd
  obtain ⟨as', c', z', h1, h2, h3, h4, h5, h6⟩ := next_loop as c t z fuel (Nat.lt_of_le_of_lt hl (by decide)) ha hc hz hz1
  have i1 : gIx (deckD as' c' t z') (.int 1) = some (.int c') := by simp [deckD]
  by_cases hp : 0 < c'
  · have i2 : gSet (deckD as' c' t z') (.int 1) (.int (c' / m)) = some (deckD as' (c' / m) t z') := by simp [gSet, deckD]
    refine ⟨c' % m, deckD as' (c' / m) t z', ?_, ⟨as', c' / m, t, z', rfl, h2, by omega, Int.ediv_nonneg h4 (by omega), ht, by omega, h5, h6⟩, Int.emod_nonneg _ (by omega), Int.emod_lt_of_pos _ hm⟩
    simp -implicitDefEqProofs only [f__law_next, h1, i1, Option.bind_some, xGt, decide_eq_true hp, asB_bool, if_true, scInt, grd_true, xMod hm, xFdiv hm hm2, i2]
  · have j2 : gIx (deckD as' c' t z') (.int 2) = some (.int t) := by simp [deckD]
    have j3 : gSet (deckD as' c' t z') (.int 2) (.int (t + 1)) = some (deckD as' c' (t + 1) z') := by simp [gSet, deckD]
    have j4 : gIx (deckD as' c' (t + 1) z') (.int 3) = some (.int z') := by simp [deckD]
    have j5 : gIx (deckD as' c' (t + 1) z') (.int 2) = some (.int (t + 1)) := by simp [deckD]
    obtain ⟨w, hw, w0, w1⟩ : ∃ w, (z' * 69621 + 30011 * (t + 1) + 12345) % 2147483647 = w ∧ 0 ≤ w ∧ w < 2147483647 := ⟨_, rfl, Int.emod_nonneg _ (by decide), Int.emod_lt_of_pos _ (by decide)⟩
    have j6 : gSet (deckD as' c' (t + 1) z') (.int 3) (.int w) = some (deckD as' c' (t + 1) w) := by simp [gSet, deckD]
    have j7 : gIx (deckD as' c' (t + 1) w) (.int 3) = some (.int w) := by simp [deckD]
    have m1 : gMul (.int z') (.int 69621) = some (.int (z' * 69621)) := xMul (.inr (by decide))
    have m2 : gMul (.int 30011) (.int (t + 1)) = some (.int (30011 * (t + 1))) := xMul (.inl (by decide))
    have m3 : gMul (.int w) (.int w) = some (.int (w * w)) := xMul (.inl (by omega))
    have k1 : gMod (.int (z' * 69621 + 30011 * (t + 1) + 12345)) (.int 2147483647) = some (.int w) := by rw [xMod (by decide), hw]
    have k2 : gMod (.int (w * w)) (.int 2147483629) = some (.int (w * w % 2147483629)) := xMod (by decide)
    have k3 : gFdiv (.int (w * w % 2147483629)) (.int 8) = some (.int (w * w % 2147483629 / 8)) := xFdiv (by decide) (by decide)
    have k4 : gMod (.int (w * w % 2147483629 / 8)) (.int m) = some (.int (w * w % 2147483629 / 8 % m)) := xMod hm
    refine ⟨w * w % 2147483629 / 8 % m, deckD as' c' (t + 1) w, ?_, ⟨as', c', t + 1, w, rfl, h2, by omega, h4, by omega, by omega, w0, by omega⟩, Int.emod_nonneg _ (by omega), Int.emod_lt_of_pos _ hm⟩
    simp -implicitDefEqProofs only [f__law_next, h1, i1, Option.bind_some, xGt, decide_eq_false hp, asB_bool, Bool.false_eq_true, if_false, j2, scInt, grd_true, xAdd, j3, j4, m1, j5, m2, k1, j6, K__law_next_1, j7, m3, k2, k3, k4]

end LK

namespace LK
open PySem L2 PySem.Spec DL
/-! ### shuffled rows -/
theorem perm_out {α : Type} {l : List α} {j : Nat} (h : j < l.length) : (l[j] :: l.eraseIdx j).Perm l := by
  rw [List.eraseIdx_eq_take_drop_succ]
  refine List.perm_middle.symm.trans (List.Perm.of_eq ?_)
  rw [List.getElem_cons_drop, List.take_append_drop]
theorem shuf_loop : ∀ (n : Nat) (xs fs : List PyData) (d : PyData) (k f : Nat), xs.length = n → n < f → xs.length + fs.length ≤ 1000000 → Deck k d → k + n ≤ 100000000 →
    ∃ (ys : List PyData) (d' : PyData), whS f WL__law_shuffled_1 L__law_shuffled_1 (d, .list xs, .list fs) = some (d', .list [], .list (fs ++ ys)) ∧ Deck (k + n) d' ∧ ys.Perm xs := by
  intro n
  induction n with
  | zero =>
    intro xs fs d k f hx hf _ hd _
    obtain rfl := List.length_eq_zero_iff.mp hx
    cases f with
    | zero => omega
    | succ f =>
      refine ⟨[], d, ?_, hd, .nil⟩
      rw [List.append_nil]
      exact whS_end (by simp [WL__law_shuffled_1])
  | succ n ih =>
    intro xs fs d k f hx hf hl hd hk
    cases f with
    | zero => omega
    | succ f =>
      have hne : xs.isEmpty = false := by
        cases xs with
        | nil => simp at hx
        | cons => rfl
      have hw : WL__law_shuffled_1 (d, .list xs, .list fs) = some true := by
        simp -implicitDefEqProofs only [WL__law_shuffled_1, xNeNilL, hne, Option.bind_some, asB_bool, Bool.not_false]
      obtain ⟨r, d1, h1, k1, r0, r1⟩ := next_ok hd (by omega) ((xs.length : Nat) : Int) (by omega) (by omega)
      obtain ⟨j, rfl⟩ := int_nat r0
      have hj : j < xs.length := by omega
      have e1 := xPop (xs := xs) (n := j) hj (by omega)
      have hb : L__law_shuffled_1 (d, .list xs, .list fs) = some (d1, .list (xs.eraseIdx j), .list (fs ++ [xs[j]])) := by
        simp -implicitDefEqProofs only [L__law_shuffled_1, xLenL, Option.bind_some, scInt, grd_true, h1, e1, xApp (xs := fs) (by omega)]
      have he : (xs.eraseIdx j).length = n := by rw [List.length_eraseIdx_of_lt hj]; omega
      obtain ⟨ys, d2, h2, k2, p2⟩ := ih (xs.eraseIdx j) (fs ++ [xs[j]]) d1 (k + 1) f he (by omega) (by rw [List.length_append, he]; simp; omega) k1 (by omega)
      refine ⟨xs[j] :: ys, d2, ?_, k2.mono (by omega), (List.Perm.cons _ p2).trans (perm_out hj)⟩
      rw [whS_step hw hb, h2, List.append_assoc]; rfl
theorem shuf_ok {k : Nat} {d : PyData} (hd : Deck k d) (hk : k ≤ 10000000) (xs : List PyData) (hl : xs.length ≤ 2000) : ∃ (ys : List PyData) (d' : PyData), f__law_shuffled d (.list xs) = some (.list ys, d') ∧ Deck (k + xs.length) d' ∧ ys.Perm xs := by
  obtain ⟨ys, d', h1, k1, p1⟩ := shuf_loop xs.length xs [] d k fuel rfl (Nat.lt_of_le_of_lt hl (by decide)) (by simp; omega) hd (by omega)
  refine ⟨ys, d', ?_, k1, p1⟩
  simp -implicitDefEqProofs only [f__law_shuffled, xListL, Option.bind_some, h1]
  rfl
theorem perm_map {α : Type} {f : α → PyData} {xs ys : List PyData} (h : xs.Perm ys) : ∀ l : List α, xs = l.map f → ∃ l' : List α, ys = l'.map f ∧ l'.Perm l := by
  induction h with
  | nil => exact fun l e => ⟨l, e, List.Perm.refl l⟩
  | cons x _ ih =>
    intro l e
    cases l with
    | nil => cases e
    | cons a l =>
      rw [List.map_cons] at e
      injection e with e1 e2
      obtain ⟨l', h1, h2⟩ := ih l e2
      exact ⟨a :: l', by rw [List.map_cons, e1, h1], h2.cons a⟩
  | swap x y t =>
    intro l e
    cases l with
    | nil => cases e
    | cons a l =>
      cases l with
      | nil => cases e
      | cons b l =>
        rw [List.map_cons, List.map_cons] at e
        injection e with e1 e2
        injection e2 with e2 e3
        exact ⟨b :: a :: l, by rw [List.map_cons, List.map_cons, e1, e2, e3], .swap a b l⟩
  | trans _ _ ih1 ih2 =>
    intro l e
    obtain ⟨l1, h1, h2⟩ := ih1 l e
    obtain ⟨l2, h3, h4⟩ := ih2 l1 h1
    exact ⟨l2, h3, h4.trans h2⟩

end LK

namespace LK
open PySem L2 PySem.Spec DL
/-! ### partial answers, step by step -/
def Ok {α : Type} (m : Option α) (Q : α → Prop) : Prop := ∃ a, m = some a ∧ Q a
theorem Ok.bnd {α β : Type} {m : Option α} {f : α → Option β} {Q : β → Prop} {a : α} (h : m = some a) (k : Ok (f a) Q) : Ok (m.bind f) Q := by rw [h]; exact k
theorem Ok.post {α β : Type} {m : Option α} {f : α → Option β} {Q : β → Prop} (P : α → Prop) (h : Ok m P) (k : ∀ a, P a → Ok (f a) Q) : Ok (m.bind f) Q := by
  obtain ⟨a, e, p⟩ := h
  rw [e]; exact k a p
theorem Ok.ret {α : Type} {a : α} {Q : α → Prop} (h : Q a) : Ok (some a) Q := ⟨a, rfl, h⟩
theorem Ok.ite {α : Type} {c : Prop} [Decidable c] {x y : Option α} {Q : α → Prop} (h1 : c → Ok x Q) (h2 : ¬ c → Ok y Q) : Ok (if c then x else y) Q := by
  split
  · rename_i h; exact h1 h
  · rename_i h; exact h2 h
theorem Ok.mono {α : Type} {m : Option α} {Q Q' : α → Prop} (h : Ok m Q) (k : ∀ a, Q a → Q' a) : Ok m Q' := by
  obtain ⟨a, e, p⟩ := h
  exact ⟨a, e, k a p⟩
theorem Ok.eq {α : Type} {m : Option α} {a : α} (h : Ok m fun x => x = a) : m = some a := by
  obtain ⟨b, e, rfl⟩ := h
  exact e

end LK

namespace LK
open PySem L2 PySem.Spec DL
/-! ### numbers, lessons, rosters judged -/
def isNum (v : PyData) (lo hi : Int) : Bool := match v with
  | .int i => decide (lo ≤ i ∧ i ≤ hi)
  | _ => false
theorem is_number_ok (v : PyData) (lo hi : Int) : f_is_number v (.int lo) (.int hi) = some (.bool (isNum v lo hi)) := by
  cases v <;> simp [f_is_number, isNum, PyData.isInt, PyData.isBool]
  rename_i i
  by_cases h : lo ≤ i <;> simp [h]

end LK

namespace LK
open PySem L2 PySem.Spec DL
theorem isNum_int {v : PyData} {lo hi : Int} (h : isNum v lo hi = true) : ∃ i, v = .int i ∧ lo ≤ i ∧ i ≤ hi := by
  unfold isNum at h
  split at h
  · exact ⟨_, rfl, of_decide_eq_true h⟩
  · cases h

end LK

namespace LK
open PySem L2 PySem.Spec DL
/-! ### rosters -/
structure Ros where
  T : Int
  G : Int
  ls : List (Int × Int)
def les (p : Int × Int) : PyData := .tuple [.int p.1, .int p.2]
def rosD (R : Ros) : PyData := .tuple [.int R.T, .int R.G, .tuple (R.ls.map les)]
def LsOk (T G : Int) (ls : List (Int × Int)) : Prop := ∀ p ∈ ls, 0 ≤ p.1 ∧ p.1 < T ∧ 0 ≤ p.2 ∧ p.2 < G
structure RosOk (n m : Nat) (R : Ros) : Prop where
  T0 : 1 ≤ R.T
  T1 : R.T ≤ n
  G0 : 1 ≤ R.G
  G1 : R.G ≤ n
  len : R.ls.length ≤ m
  ok : LsOk R.T R.G R.ls
theorem LsOk.snoc {T G : Int} {ls : List (Int × Int)} (h : LsOk T G ls) {a b : Int} (ha : 0 ≤ a ∧ a < T ∧ 0 ≤ b ∧ b < G) : LsOk T G (ls ++ [(a, b)]) := fun p hp => by
  rcases List.mem_append.mp hp with z | z
  · exact h p z
  · rw [List.mem_singleton.mp z]; exact ha
/-! ### lesson indexes -/
abbrev Les := Int × Int
def lsA (ls : List Les) (i : Nat) : Les := ls.getD i (0, 0)
theorem at_getD {α β : Type} {f : α → β} {l : List α} {i : Nat} (h : i < l.length) (d : α) : atI (l.map f) ((i : Nat) : Int) = some (f (l.getD i d)) := by
  have h' : i < (l.map f).length := by simpa using h
  rw [at_nat h', List.getElem_map, List.getD_eq_getElem?_getD, List.getElem?_eq_getElem h]; rfl
theorem ros_ix {R : Ros} : gIx (rosD R) (.int 2) = some (.tuple (R.ls.map les)) := by simp [rosD]
def sideOf (b : Bool) (p : Les) : Int := if b = true then p.2 else p.1
def placeD (b : Bool) : PyData := .int (if b = true then 1 else 0)
theorem ix_side (b : Bool) (p : Les) : gIx (les p) (placeD b) = some (.int (sideOf b p)) := by cases b <;> simp [les, placeD, sideOf]
theorem zipIdx_range {α : Type} (l : List α) (d : α) : l.zipIdx = (List.range l.length).map fun k => (l.getD k d, k) := by
  apply List.ext_getElem (by simp)
  intro i h1 h2
  rw [List.length_zipIdx] at h1
  rw [List.getElem_zipIdx, List.getElem_map, List.getElem_range, List.getD_eq_getElem?_getD, List.getElem?_eq_getElem h1, Nat.zero_add]
  rfl

end LK

namespace LK
open PySem L2 PySem.Spec DL
/-! ### rooms -/
theorem rooms97_ok {k : Nat} {d : PyData} (hd : Deck k d) (hk : k ≤ 1000000) : ∃ (q : Int) (d' : PyData), f__law_rooms d = some (.int q, d') ∧ Deck (k + 2) d' ∧ 1 ≤ q ∧ q.natAbs < 2 ^ 97 := by
  obtain ⟨x, d1, h1, k1, x0, x1⟩ := next_ok hd (by omega) 16 (by decide) (by decide)
  obtain ⟨r, d2, h2, k2, r0, r1⟩ := next_ok k1 (by omega) 6 (by decide) (by decide)
  have p1 : gPow (.int 10) (.int 12) = some (.int (10 ^ 12)) := xPow (by decide) (by decide) (by decide)
  have p2 : gPow (.int 10) (.int 29) = some (.int (10 ^ 29)) := xPow (by decide) (by decide) (by decide)
  obtain ⟨q, hq, q0, q1⟩ : ∃ q : Int, gIx (.list [(.int 1), (.int 2), (.int 3), (.int (1 + x)), (.int (10 ^ 12)), (.int (10 ^ 29))]) (.int r) = some (.int q) ∧ 1 ≤ q ∧ q.natAbs < 2 ^ 97 := by
    have : r = 0 ∨ r = 1 ∨ r = 2 ∨ r = 3 ∨ r = 4 ∨ r = 5 := by omega
    have big : (1 + x).natAbs < 2 ^ 97 := Nat.lt_trans (show (1 + x).natAbs < 32 by omega) (by decide)
    rcases this with rfl | rfl | rfl | rfl | rfl | rfl
    · exact ⟨1, rfl, by decide, by decide⟩
    · exact ⟨2, rfl, by decide, by decide⟩
    · exact ⟨3, rfl, by decide, by decide⟩
    · exact ⟨1 + x, rfl, by omega, big⟩
    · exact ⟨10 ^ 12, rfl, by decide, by decide⟩
    · exact ⟨10 ^ 29, rfl, by decide, by decide⟩
  refine ⟨q, d2, ?_, k2, q0, q1⟩
  simp -implicitDefEqProofs only [f__law_rooms, h1, xAdd, p1, p2, h2, hq, Option.bind_some]
theorem rooms_ok {k : Nat} {d : PyData} (hd : Deck k d) (hk : k ≤ 1000000) : ∃ (q : Int) (d' : PyData), f__law_rooms d = some (.int q, d') ∧ Deck (k + 2) d' ∧ 1 ≤ q ∧ q.natAbs < 2 ^ 100 := by
  obtain ⟨q, d', h1, h2, h3, h4⟩ := rooms97_ok hd hk
  exact ⟨q, d', h1, h2, h3, Nat.lt_trans h4 (by decide)⟩

end LK

namespace LK
open PySem L2 PySem.Spec DL
/-! ### rosters drawn with schedules -/
abbrev Row := Int × Int × Nat
def rowT (p : Row) : PyData := .tuple [.int p.1, .int p.2.1, natD p.2.2]
def RowIn (T G : Int) (p : Row) : Prop := (0 ≤ p.1 ∧ p.1 < T) ∧ (0 ≤ p.2.1 ∧ p.2.1 < G) ∧ p.2.2 < 8
theorem pick5 {r : Int} (h0 : 0 ≤ r) (h1 : r < 5) : ∃ p : Int, gIx (.list [(.int 1), (.int 2), (.int 3), (.int 4), (.int 8)]) (.int r) = some (.int p) ∧ 1 ≤ p ∧ p ≤ 8 := by
  have : r = 0 ∨ r = 1 ∨ r = 2 ∨ r = 3 ∨ r = 4 := by omega
  rcases this with rfl | rfl | rfl | rfl | rfl
  · exact ⟨1, rfl, by decide, by decide⟩
  · exact ⟨2, rfl, by decide, by decide⟩
  · exact ⟨3, rfl, by decide, by decide⟩
  · exact ⟨4, rfl, by decide, by decide⟩
  · exact ⟨8, rfl, by decide, by decide⟩
theorem pick4 {r : Int} (h0 : 0 ≤ r) (h1 : r < 4) : ∃ p : Int, gIx (.list [(.int 1), (.int 2), (.int 1000), (.int 50000)]) (.int r) = some (.int p) ∧ 1 ≤ p ∧ p ≤ 50000 := by
  have : r = 0 ∨ r = 1 ∨ r = 2 ∨ r = 3 := by omega
  rcases this with rfl | rfl | rfl | rfl
  · exact ⟨1, rfl, by decide, by decide⟩
  · exact ⟨2, rfl, by decide, by decide⟩
  · exact ⟨1000, rfl, by decide, by decide⟩
  · exact ⟨50000, rfl, by decide, by decide⟩
abbrev PSt := PyData × PyData × PyData × PyData
def Diff (p q : Row) : Prop := p.1 ≠ q.1 ∧ p.2.1 ≠ q.2.1
def GoodR (rows : List Row) : Prop := rows.Pairwise fun p q => p.2.2 = q.2.2 → Diff p q
theorem GoodR.perm {l l' : List Row} (p : l.Perm l') (h : GoodR l) : GoodR l' :=
  (p.pairwise_iff fun {x y} hxy e => ⟨Ne.symm (hxy e.symm).1, Ne.symm (hxy e.symm).2⟩).mp h
theorem hour_loop {T G : Int} {ys zs : List PyData} (hy : ∀ y ∈ ys, ∃ t : Int, y = .int t ∧ 0 ≤ t ∧ t < T) (hz : ∀ z ∈ zs, ∃ g : Int, z = .int g ∧ 0 ≤ g ∧ g < G) (ny : ys.Nodup) (nz : zs.Nodup) {h : Nat} (hh : h < 8) (hl : ys.length ≤ 8) {k : Nat} {d : PyData} (hd : Deck k d) (hk : k ≤ 1000000) (rows : List Row) (hr : ∀ p ∈ rows, RowIn T G p ∧ p.2.2 < h) (hgr : GoodR rows) (hrl : rows.length ≤ 1000) (a b : PyData) :
    ∃ (d' : PyData) (rows' : List Row) (a' b' : PyData), foldS (zipD ys zs) (L__law_planned_2 (natD h)) (d, .list (rows.map rowT), a, b) = some (d', .list (rows'.map rowT), a', b') ∧ Deck (k + 8) d' ∧ (∀ p ∈ rows', RowIn T G p ∧ p.2.2 < h + 1) ∧ GoodR rows' ∧ rows'.length ≤ rows.length + 8 := by
  have hzl : (zipD ys zs).length ≤ 8 := by rw [zipD_len]; omega
  obtain ⟨s', h1, d', nw, a', b', rfl, k1, r1, p1, l1⟩ := foldS_inv (f := L__law_planned_2 (natD h)) (l := zipD ys zs) (k := 0) (s := ((d, .list (rows.map rowT), a, b) : PSt))
    (fun i s => ∃ (d' : PyData) (nw : List Row) (a' b' : PyData), s = (d', .list ((rows ++ nw).map rowT), a', b') ∧ Deck (k + i) d' ∧ (∀ p ∈ nw, RowIn T G p ∧ p.2.2 = h ∧ ∃ j, j < i ∧ ys[j]? = some (.int p.1) ∧ zs[j]? = some (.int p.2.1)) ∧ nw.Pairwise Diff ∧ nw.length ≤ i) ⟨d, [], a, b, by rw [List.append_nil], hd, fun p hp => (by cases hp), List.Pairwise.nil, Nat.le_refl _⟩ fun i x s hx hs => by
      have hi := (List.getElem?_eq_some_iff.mp hx).1
      rw [Nat.zero_add] at hs ⊢
      obtain ⟨d1, rs, a1, b1, rfl, k1, r1, p1, l1⟩ := hs
      obtain ⟨y, z, g1, g2, rfl⟩ := zipD_get _ _ _ _ hx
      obtain ⟨t, rfl, t0, t1⟩ := hy y (List.mem_of_getElem? g1)
      obtain ⟨g, rfl, g0, g1'⟩ := hz z (List.mem_of_getElem? g2)
      obtain ⟨r, d2, h2, k2, r0, _⟩ := next_ok k1 (by omega) 5 (by decide) (by decide)
      by_cases hp : 0 < r
      · have ap : gApp (.list ((rows ++ rs).map rowT)) (.tuple [.int t, .int g, natD h]) = some (.list ((rows ++ (rs ++ [(t, g, h)])).map rowT)) := by
          rw [xApp (by rw [List.length_map, List.length_append]; omega), ← List.append_assoc, List.map_append (l₂ := [(t, g, h)])]; rfl
        refine ⟨(d2, .list ((rows ++ (rs ++ [(t, g, h)])).map rowT), .int t, .int g), ?_, d2, rs ++ [(t, g, h)], .int t, .int g, rfl, k2.mono (by omega), fun p hp => ?_, ?_, by rw [List.length_append]; simp; omega⟩
        · simp -implicitDefEqProofs only [L__law_planned_2, un2_ok, Option.bind_some, h2, xGt, decide_eq_true hp, asB_bool, if_true, ap]
        · rcases List.mem_append.mp hp with q | q
          · obtain ⟨c1, c2, j, c3, c4⟩ := r1 p q
            exact ⟨c1, c2, j, by omega, c4⟩
          · rw [List.mem_singleton.mp q]; exact ⟨⟨⟨t0, t1⟩, ⟨g0, g1'⟩, hh⟩, rfl, i, by omega, g1, g2⟩
        · refine List.pairwise_append.mpr ⟨p1, List.pairwise_singleton _ _, fun p hp q hq => ?_⟩
          rw [List.mem_singleton.mp hq]
          obtain ⟨_, _, j, c3, c4, c5⟩ := r1 p hp
          obtain ⟨y1, y2⟩ := List.getElem?_eq_some_iff.mp g1
          obtain ⟨z1, z2⟩ := List.getElem?_eq_some_iff.mp g2
          obtain ⟨y3, y4⟩ := List.getElem?_eq_some_iff.mp c4
          obtain ⟨z3, z4⟩ := List.getElem?_eq_some_iff.mp c5
          refine ⟨fun e => List.pairwise_iff_getElem.mp ny j i y3 y1 c3 ?_, fun e => List.pairwise_iff_getElem.mp nz j i z3 z1 c3 ?_⟩
          · rw [y4, y2, e]
          · rw [z4, z2, e]
      · refine ⟨(d2, .list ((rows ++ rs).map rowT), .int t, .int g), ?_, d2, rs, .int t, .int g, rfl, k2.mono (by omega), fun p hp => ?_, p1, by omega⟩
        · simp -implicitDefEqProofs only [L__law_planned_2, un2_ok, Option.bind_some, h2, xGt, decide_eq_false hp, asB_bool, Bool.false_eq_true, if_false]
        · obtain ⟨c1, c2, j, c3, c4⟩ := r1 p hp
          exact ⟨c1, c2, j, by omega, c4⟩
  refine ⟨d', rows ++ nw, a', b', h1, k1.mono (by omega), fun p hp => ?_, ?_, by rw [List.length_append]; omega⟩
  · rcases List.mem_append.mp hp with q | q
    · have := hr p q; exact ⟨this.1, by omega⟩
    · have := r1 p q; exact ⟨this.1, by omega⟩
  · refine List.pairwise_append.mpr ⟨hgr, p1.imp fun {a b} h (_ : a.2.2 = b.2.2) => h, fun p hp q hq e => ?_⟩
    have e1 := (hr p hp).2
    have e2 := (r1 q hq).2.1
    omega
theorem shuf_range {k : Nat} {d : PyData} (hd : Deck k d) (hk : k ≤ 1000000) {T : Int} (h0 : 0 ≤ T) (h1 : T ≤ 8) : ∃ (ys : List PyData) (d' : PyData), f__law_shuffled d (.list ((List.range T.toNat).map natD)) = some (.list ys, d') ∧ Deck (k + 8) d' ∧ ys.length ≤ 8 ∧ ys.Nodup ∧ ∀ y ∈ ys, ∃ t : Int, y = .int t ∧ 0 ≤ t ∧ t < T := by
  obtain ⟨ys, d', e1, k1, p1⟩ := shuf_ok hd (by omega) ((List.range T.toNat).map natD) (by simp; omega)
  have hl : ((List.range T.toNat).map natD).length ≤ 8 := by simp; omega
  have nd : ((List.range T.toNat).map natD).Nodup := List.pairwise_map.mpr (List.nodup_range.imp fun h q => h (by injection q with q; omega))
  refine ⟨ys, d', e1, k1.mono (by omega), by rw [p1.length_eq]; exact hl, p1.nodup_iff.mpr nd, fun y hy => ?_⟩
  obtain ⟨i, hi, rfl⟩ := List.mem_map.mp (p1.subset hy)
  have := List.mem_range.mp hi
  exact ⟨(i : Nat), rfl, by omega, by omega⟩
theorem plannedM_ok {M : Nat} (hM : M ≤ 16) {k : Nat} {d : PyData} (hd : Deck k d) (hk : k ≤ 100000) :
    ∃ (T G : Int) (ps : List Row) (d' : PyData), f__law_planned d (.int (M : Nat)) = some (.list [rosD ⟨T, G, ps.map fun p => (p.1, p.2.1)⟩, .tuple ((ps.map fun p => p.2.2).map natD)], d') ∧ Deck (k + 300) d' ∧ RosOk 8 M ⟨T, G, ps.map fun p => (p.1, p.2.1)⟩ ∧ GoodR ps ∧ (∀ p ∈ ps, p.2.2 < 8) := by
  obtain ⟨r0, d1, h1, k1, a0, a1⟩ := next_ok hd (by omega) 5 (by decide) (by decide)
  obtain ⟨P, hP, P0, P1⟩ := pick5 a0 a1
  obtain ⟨x, d2, h2, k2, x0, x1⟩ := next_ok k1 (by omega) P (by omega) (by omega)
  obtain ⟨y, d3, h3, k3, y0, y1⟩ := next_ok k2 (by omega) P (by omega) (by omega)
  obtain ⟨w, d4, h4, k4, w0, w1⟩ := next_ok k3 (by omega) 6 (by decide) (by decide)
  have rn := rng1_ok (show 0 ≤ 1 + w by omega) (show 1 + w ≤ 1000000 by omega)
  have rT := rng1_ok (show 0 ≤ 1 + x by omega) (show 1 + x ≤ 1000000 by omega)
  have rG := rng1_ok (show 0 ≤ 1 + y by omega) (show 1 + y ≤ 1000000 by omega)
  obtain ⟨s', h5, d5, rows, a, b, c, rfl, k5, r5, g5, l5⟩ := foldS_range (f := L__law_planned_1 (.int (1 + x)) (.int (1 + y))) (n := (1 + w).toNat) (s := ((d4, .list [], .none, .none, .none) : PyData × PyData × PyData × PyData × PyData))
    (fun i s => ∃ (d' : PyData) (rows : List Row) (a b c : PyData), s = (d', .list (rows.map rowT), a, b, c) ∧ Deck (k + 4 + 24 * i) d' ∧ (∀ p ∈ rows, RowIn (1 + x) (1 + y) p ∧ p.2.2 < i) ∧ GoodR rows ∧ rows.length ≤ 8 * i) ⟨d4, [], .none, .none, .none, rfl, k4, fun p h => (by cases h), List.Pairwise.nil, Nat.le_refl _⟩ fun i s hi hs => by
      obtain ⟨e0, rs, a, b, c, rfl, q0, r0, gr, l0⟩ := hs
      obtain ⟨ys, e1, g1, q1, ly, ny, hy⟩ := shuf_range q0 (by omega) (T := 1 + x) (by omega) (by omega)
      obtain ⟨zs, e2, g2, q2, lz, nz, hz⟩ := shuf_range q1 (by omega) (T := 1 + y) (by omega) (by omega)
      obtain ⟨e3, rs', a', b', g3, q3, r3, gr3, l3⟩ := hour_loop hy hz ny nz (h := i) (by omega) ly q2 (by omega) rs r0 gr (by omega) b c
      refine ⟨(e3, .list (rs'.map rowT), natD i, a', b'), ?_, e3, rs', natD i, a', b', rfl, q3.mono (by omega), r3, gr3, by omega⟩
      simp -implicitDefEqProofs only [L__law_planned_1, rT, rG, Option.bind_some, g1, g2, xZipL, g3]
  obtain ⟨vs, d6, h6, k6, p6⟩ := shuf_ok k5 (by omega) (rows.map rowT) (by rw [List.length_map]; omega)
  obtain ⟨rows2, ev, pr⟩ := perm_map p6.symm rows rfl
  have e7 : gSlL (.list vs) none (some ((M : Nat) : Int)) = some (.list (cutD vs none (some ((M : Nat) : Int)))) := rfl
  rw [cut_take] at e7
  have e7' : gSlL (.list vs) none (some ((M : Nat) : Int)) = some (.list (vs.take M)) := e7
  have ep : vs.take M = (rows2.take M).map rowT := by rw [ev, List.map_take]
  have hps : ∀ p ∈ rows2.take M, RowIn (1 + x) (1 + y) p := fun p hp => (r5 p (pr.subset (List.mem_of_mem_take hp))).1
  have gps : GoodR (rows2.take M) := (g5.perm pr.symm).sublist (List.take_sublist M rows2)
  have lp : (rows2.take M).length ≤ M := by rw [List.length_take]; omega
  generalize rows2.take M = ps at *
  rw [ep] at e7'
  have c1 : mapS (ps.map rowT) C__law_planned_1 = some (ps.map fun p => les (p.1, p.2.1)) := mapS_of fun p _ => rfl
  have c2 : mapS (ps.map rowT) C__law_planned_2 = some (ps.map fun p => natD p.2.2) := mapS_of fun p _ => rfl
  refine ⟨1 + x, 1 + y, ps, d6, ?_, k6.mono (by rw [List.length_map]; omega), ⟨by show 1 ≤ 1 + x; omega, by show 1 + x ≤ ((8 : Nat) : Int); omega, by show 1 ≤ 1 + y; omega, by show 1 + y ≤ ((8 : Nat) : Int); omega, by show (ps.map _).length ≤ M; rw [List.length_map]; exact lp, fun q hq => ?_⟩, gps, fun p hp => (hps p hp).2.2⟩
  · have rd : rosD ⟨1 + x, 1 + y, ps.map fun p => (p.1, p.2.1)⟩ = .tuple [.int (1 + x), .int (1 + y), .tuple (ps.map fun p => les (p.1, p.2.1))] := by
      show PyData.tuple [_, _, .tuple ((ps.map fun p => (p.1, p.2.1)).map les)] = _
      rw [List.map_map]; rfl
    have hd' : PyData.tuple ((ps.map fun p => p.2.2).map natD) = .tuple (ps.map fun p => natD p.2.2) := by rw [List.map_map]; rfl
    rw [rd, hd']
    simp -implicitDefEqProofs only [f__law_planned, h1, hP, Option.bind_some, h2, h3, h4, xAdd, rn, h5, h6, xPrt, e7', xSeqL, c1, c2, xTupL]
  · obtain ⟨p, hp, rfl⟩ := List.mem_map.mp hq
    have := hps p hp
    exact ⟨this.1.1, this.1.2, this.2.1.1, this.2.1.2⟩
theorem planned_ok {k : Nat} {d : PyData} (hd : Deck k d) (hk : k ≤ 100000) :
    ∃ (T G : Int) (ps : List Row) (d' : PyData), f__law_planned d (.int 16) = some (.list [rosD ⟨T, G, ps.map fun p => (p.1, p.2.1)⟩, .tuple ((ps.map fun p => p.2.2).map natD)], d') ∧ Deck (k + 300) d' ∧ RosOk 8 16 ⟨T, G, ps.map fun p => (p.1, p.2.1)⟩ ∧ GoodR ps ∧ (∀ p ∈ ps, p.2.2 < 8) := plannedM_ok (M := 16) (Nat.le_refl _) hd hk

end LK

namespace LK
open PySem L2 PySem.Spec DL
/-! ### schedules spread -/
theorem spread_ok {k : Nat} {d : PyData} (hd : Deck k d) (hk : k ≤ 100000) {hs : List Nat} (hh : ∀ h ∈ hs, h < 8) :
    ∃ (nf : Nat → Int) (d' : PyData), f__law_spread d (.tuple (hs.map natD)) = some (.tuple ((hs.map nf).map .int), d') ∧ Deck (k + 9) d' ∧ (∀ a b, a < 8 → b < 8 → nf a = nf b → a = b) ∧ ∀ a, a < 8 → 0 ≤ nf a ∧ nf a ≤ 400000 := by
  obtain ⟨r0, d1, h1, k1, a0, a1⟩ := next_ok hd (by omega) 4 (by decide) (by decide)
  obtain ⟨s, hS, S0, S1⟩ := pick4 a0 a1
  have r8 : rng1 (.int 8) = some ((List.range 8).map natD) := rng1_ok (by decide) (by decide)
  have c1 : mapS ((List.range 8).map natD) (C__law_spread_1 (.int s)) = some ((List.range 8).map fun i => .int (((i : Nat) : Int) * s)) := mapS_of fun i hi => by
    have := List.mem_range.mp hi
    have m1 : gMul (natD i) (.int s) = some (.int (((i : Nat) : Int) * s)) := xMul (.inl (by omega))
    simp -implicitDefEqProofs only [C__law_spread_1, m1, Option.bind_some]
  obtain ⟨vs, d2, h2, k2, p2⟩ := shuf_ok k1 (by omega) ((List.range 8).map fun i => PyData.int (((i : Nat) : Int) * s)) (by simp)
  obtain ⟨ns, en, pn⟩ := perm_map (f := PyData.int) p2.symm ((List.range 8).map fun i : Nat => ((i : Nat) : Int) * s) (by rw [List.map_map]; rfl)
  have ln : ns.length = 8 := by rw [pn.length_eq, List.length_map, List.length_range]
  have hn : ∀ u ∈ ns, 0 ≤ u ∧ u ≤ 400000 := fun u hu => by
    obtain ⟨i, hi, rfl⟩ := List.mem_map.mp (pn.subset hu)
    have hi := List.mem_range.mp hi
    have q1 : ((i : Nat) : Int) * s ≤ 8 * s := Int.mul_le_mul_of_nonneg_right (by omega) (by omega)
    exact ⟨Int.mul_nonneg (by omega) (by omega), by omega⟩
  have nn : ns.Nodup := pn.nodup_iff.mpr (List.pairwise_map.mpr (List.nodup_range.imp fun h q => h (by
    have := Int.eq_of_mul_eq_mul_right (show s ≠ 0 by omega) q
    omega)))
  rw [en] at h2
  have c2 : mapS (hs.map natD) (C__law_spread_2 (.list (ns.map .int))) = some (hs.map fun h => .int (ns.getD h 0)) := mapS_of fun h hm => by
    have e : gIx (.list (ns.map .int)) (natD h) = some (.int (ns.getD h 0)) := at_getD (f := PyData.int) (l := ns) (i := h) (by have := hh h hm; omega) 0
    simp -implicitDefEqProofs only [C__law_spread_2, e, Option.bind_some]
  have gd : ∀ a, a < 8 → ∃ q : a < ns.length, ns.getD a 0 = ns[a] := fun a ha => ⟨by omega, by rw [List.getD_eq_getElem?_getD, List.getElem?_eq_getElem (by omega)]; rfl⟩
  refine ⟨fun h => ns.getD h 0, d2, ?_, k2.mono (by simp), fun a b ha hb e => ?_, fun a ha => ?_⟩
  · have e : (hs.map fun h => ns.getD h 0).map PyData.int = hs.map fun h => .int (ns.getD h 0) := by rw [List.map_map]; rfl
    rw [e]
    simp -implicitDefEqProofs only [f__law_spread, h1, hS, Option.bind_some, r8, c1, h2, xSeqT, c2, xTupL]
  · obtain ⟨qa, ea⟩ := gd a ha
    obtain ⟨qb, eb⟩ := gd b hb
    have e : ns.getD a 0 = ns.getD b 0 := e
    rw [ea, eb] at e
    rcases Nat.lt_trichotomy a b with z | z | z
    · exact absurd e (List.pairwise_iff_getElem.mp nn a b qa qb z)
    · exact z
    · exact absurd e.symm (List.pairwise_iff_getElem.mp nn b a qb qa z)
  · obtain ⟨qa, ea⟩ := gd a ha
    show 0 ≤ ns.getD a 0 ∧ ns.getD a 0 ≤ 400000
    rw [ea]
    exact hn _ (List.getElem_mem qa)

end LK

namespace LK
open PySem L2 PySem.Spec DL
/-! ### degrees, by the program and by the law -/
def ownOf (ls : List Les) (b : Bool) (i : Int) : List Nat := (List.range ls.length).filter fun k => decide (sideOf b (lsA ls k) = i)
def dgs (R : Ros) (b : Bool) (n : Nat) : List Nat := (List.range n).map fun i => (ownOf R.ls b (i : Nat)).length
theorem ls_range (ls : List Les) : ls = (List.range ls.length).map (lsA ls) := by
  apply List.ext_getElem (by simp)
  intro i h1 h2
  rw [List.getElem_map, List.getElem_range, lsA, List.getD_eq_getElem?_getD, List.getElem?_eq_getElem h1]; rfl
theorem own_ok {R : Ros} (b : Bool) (i : Nat) : f_lessons_of (rosD R) (.str (if b = true then "group" else "teacher")) (natD i) = some (.list ((ownOf R.ls b (i : Nat)).map natD)) := by
  have e1 : gEn (.tuple (R.ls.map les)) = some ((List.range R.ls.length).map fun k => .tuple [natD k, les (lsA R.ls k)]) := by
    rw [xEnT, enum_map, zipIdx_range R.ls (0, 0), List.map_map]; rfl
  have e2 : filS ((List.range R.ls.length).map fun k => PyData.tuple [natD k, les (lsA R.ls k)]) (C_lessons_of_1 (natD i) (placeD b)) = some ((ownOf R.ls b (i : Nat)).map natD) := filS_of fun k _ => by
    have e : gEq (.int (sideOf b (lsA R.ls k))) (natD i) = some (.bool (decide (sideOf b (lsA R.ls k) = ((i : Nat) : Int)))) := xEq
    simp -implicitDefEqProofs only [C_lessons_of_1, un2_ok, Option.bind_some, ix_side, e, asB_bool]
    split <;> rfl
  have e3 : (gEq (.str (if b = true then "group" else "teacher")) (.str "teacher")).bind (fun v1 => (asB v1).bind fun v2 => if v2 = true then some (PyData.int 0) else some (.int 1)) = some (placeD b) := by
    cases b
    · show (gEq (.str "teacher") (.str "teacher")).bind _ = _
      rw [xEqS]; rfl
    · show (gEq (.str "group") (.str "teacher")).bind _ = _
      rw [xEqS, show (("group" : Str) == ("teacher" : Str)) = false by decide +kernel]; rfl
  obtain ⟨v1, h1, h2⟩ := Option.bind_eq_some_iff.mp e3
  obtain ⟨v2, h3, h4⟩ := Option.bind_eq_some_iff.mp h2
  simp -implicitDefEqProofs only [f_lessons_of, h1, Option.bind_some, h3, h4, ros_ix, e1, e2]

end LK

namespace LK
open PySem L2 PySem.Spec DL
def cnt (R : Ros) (b : Bool) : Int := if b = true then R.G else R.T
theorem cnt_ix {R : Ros} (b : Bool) : gIx (rosD R) (placeD b) = some (.int (cnt R b)) := by cases b <;> simp [rosD, placeD, cnt]
theorem cnt_in {R : Ros} (ok : RosOk 8 16 R) (b : Bool) : 1 ≤ cnt R b ∧ cnt R b ≤ 8 := by
  cases b
  · exact ⟨ok.T0, ok.T1⟩
  · exact ⟨ok.G0, ok.G1⟩
def sideL (R : Ros) (b : Bool) : List Nat := dgs R b (cnt R b).toNat
theorem degrees_ok {R : Ros} (ok : RosOk 8 16 R) : f_degrees (rosD R) = some (.tuple [.tuple ((sideL R false).map natD), .tuple ((sideL R true).map natD)]) := by
  have c0 := cnt_in ok false
  have c1 := cnt_in ok true
  have a0 : gIx (rosD R) (.int 0) = some (.int (cnt R false)) := cnt_ix false
  have a1 : gIx (rosD R) (.int 1) = some (.int (cnt R true)) := cnt_ix true
  have m0 : mapS ((List.range (cnt R false).toNat).map natD) (C_degrees_1 (rosD R)) = some ((sideL R false).map natD) := by
    rw [sideL, dgs, List.map_map]
    exact mapS_of fun i _ => by
      have o : f_lessons_of (rosD R) (.str "teacher") (natD i) = some (.list ((ownOf R.ls false (i : Nat)).map natD)) := own_ok false i
      simp -implicitDefEqProofs only [C_degrees_1, o, Option.bind_some, xLenL, List.length_map]
      rfl
  have m1 : mapS ((List.range (cnt R true).toNat).map natD) (C_degrees_2 (rosD R)) = some ((sideL R true).map natD) := by
    rw [sideL, dgs, List.map_map]
    exact mapS_of fun i _ => by
      have o : f_lessons_of (rosD R) (.str "group") (natD i) = some (.list ((ownOf R.ls true (i : Nat)).map natD)) := own_ok true i
      simp -implicitDefEqProofs only [C_degrees_2, o, Option.bind_some, xLenL, List.length_map]
      rfl
  simp -implicitDefEqProofs only [f_degrees, a0, a1, rng1_ok (show 0 ≤ cnt R false by omega) (show cnt R false ≤ 1000000 by omega), rng1_ok (show 0 ≤ cnt R true by omega) (show cnt R true ≤ 1000000 by omega), Option.bind_some, m0, m1, xTupL]

end LK

namespace LK
open PySem L2 PySem.Spec DL
/-! ### degrees by the law -/
theorem law_side_ok {R : Ros} (b : Bool) (n : Nat) : mapS ((List.range n).map natD) (C__law_degrees_1 (rosD R) (placeD b)) = some ((dgs R b n).map natD) := by
  have e0 : R.ls.map les = (List.range R.ls.length).map fun k => les (lsA R.ls k) := by
    conv => lhs; rw [ls_range R.ls]
    rw [List.map_map]; rfl
  have m1 : mapS ((List.range n).map natD) (C__law_degrees_1 (rosD R) (placeD b)) = some ((List.range n).map fun i => natD (ownOf R.ls b (i : Nat)).length) := mapS_of fun i _ => by
    have f1 : filS (R.ls.map les) (C__law_degrees_2 (placeD b) (natD i)) = some ((ownOf R.ls b (i : Nat)).map fun k => les (lsA R.ls k)) := by
      rw [e0]
      exact filS_of fun k _ => by
        have e : gEq (.int (sideOf b (lsA R.ls k))) (natD i) = some (.bool (decide (sideOf b (lsA R.ls k) = ((i : Nat) : Int)))) := xEq
        simp -implicitDefEqProofs only [C__law_degrees_2, Option.bind_some, ix_side, e, asB_bool]
        split <;> rfl
    simp -implicitDefEqProofs only [C__law_degrees_1, ros_ix, Option.bind_some, xSeqT, f1, xLenL, List.length_map]
    rfl
  rw [m1, dgs, List.map_map]; rfl
theorem law_degrees_ok {R : Ros} (ok : RosOk 8 16 R) : f__law_degrees (rosD R) = some (.list [.list ((sideL R false).map natD), .list ((sideL R true).map natD)]) := by
  have st : ∀ (b : Bool) (acc : List PyData), acc.length ≤ 10 → L__law_degrees_1 (rosD R) (placeD b) (.list acc) = some (.list (acc ++ [.list ((sideL R b).map natD)])) := fun b acc ha => by
    have c := cnt_in ok b
    have ap : gApp (.list acc) (.list ((sideL R b).map natD)) = some (.list (acc ++ [.list ((sideL R b).map natD)])) := xApp (by omega)
    simp -implicitDefEqProofs only [L__law_degrees_1, cnt_ix, Option.bind_some, rng1_ok (show 0 ≤ cnt R b by omega) (show cnt R b ≤ 1000000 by omega), law_side_ok]
    show (gApp (.list acc) (.list ((sideL R b).map natD))).bind _ = _
    rw [ap]; rfl
  have r2 : rng1 (.int 2) = some [placeD false, placeD true] := rfl
  have f1 : foldS [placeD false, placeD true] (L__law_degrees_1 (rosD R)) (.list []) = some (.list [.list ((sideL R false).map natD), .list ((sideL R true).map natD)]) := by
    show (L__law_degrees_1 (rosD R) (placeD false) (.list [])).bind _ = _
    rw [st false [] (by decide)]
    show (L__law_degrees_1 (rosD R) (placeD true) (.list [.list ((sideL R false).map natD)])).bind _ = _
    rw [st true [_] (by simp)]; rfl
  simp -implicitDefEqProofs only [f__law_degrees, r2, Option.bind_some, f1]

end LK

namespace LK
open PySem L2 PySem.Spec DL
/-! ### rows of numbers sorted -/
end LK

namespace LK
open PySem L2 PySem.Spec DL
/-! ### rows of natural numbers as data -/
theorem cast_list (L : List Nat) : L.map natD = (L.map fun x => ((x : Nat) : Int)).map .int := by rw [List.map_map]; rfl
theorem cast_mem {L : List Nat} {k : Nat} : decide (((k : Nat) : Int) ∈ L.map fun x => ((x : Nat) : Int)) = decide (k ∈ L) := by
  rw [decide_eq_decide, List.mem_map]
  constructor
  · rintro ⟨a, h1, h2⟩
    rwa [show k = a by omega]
  · intro h
    exact ⟨k, h, rfl⟩
theorem notin_list {L : List Nat} {k : Nat} : gNotIn (natD k) (.list (L.map natD)) = some (.bool (!decide (k ∈ L))) := by
  rw [cast_list]
  have := xNotInL (i := ((k : Nat) : Int)) (l := L.map fun x => ((x : Nat) : Int))
  rw [cast_mem] at this
  exact this
theorem like_nats (l : List Nat) : likeOk (l.map natD) = true := by
  unfold likeOk
  simp only [Bool.and_eq_true, List.all_eq_true, decide_eq_true_eq]
  refine ⟨⟨⟨plain_map fun _ => rfl, fun x hx y hy => ?_⟩, fun x hx => ?_⟩, Nat.le_trans (depth_map (f := natD) (n := 0) fun _ => Nat.le_refl 0) (by decide)⟩
  · obtain ⟨a, _, rfl⟩ := List.mem_map.mp hx
    obtain ⟨b, _, rfl⟩ := List.mem_map.mp hy
    simp [PySem.W.alike, natD]
  · obtain ⟨a, _, rfl⟩ := List.mem_map.mp hx
    rfl
/-- the greatest, the least of a row -/
def mxN : List Nat → Nat
  | [] => 0
  | n :: ns => ns.foldl max n
def mnN : List Nat → Nat
  | [] => 0
  | n :: ns => ns.foldl min n
theorem fold_max (ns : List Nat) : ∀ n : Nat, (ns.map fun x => ((x : Nat) : Int)).foldl max (n : Int) = ((ns.foldl max n : Nat) : Int) := by
  induction ns with
  | nil => intro n; rfl
  | cons a ns ih =>
    intro n
    rw [List.map_cons, List.foldl_cons, List.foldl_cons, show max (n : Int) (a : Int) = ((max n a : Nat) : Int) by omega, ih]
theorem fold_min (ns : List Nat) : ∀ n : Nat, (ns.map fun x => ((x : Nat) : Int)).foldl min (n : Int) = ((ns.foldl min n : Nat) : Int) := by
  induction ns with
  | nil => intro n; rfl
  | cons a ns ih =>
    intro n
    rw [List.map_cons, List.foldl_cons, List.foldl_cons, show min (n : Int) (a : Int) = ((min n a : Nat) : Int) by omega, ih]
theorem fold_max_mem (ns : List Nat) : ∀ n : Nat, ns.foldl max n = n ∨ ns.foldl max n ∈ ns := by
  induction ns with
  | nil => intro n; exact .inl rfl
  | cons a ns ih =>
    intro n
    rw [List.foldl_cons]
    rcases ih (max n a) with h | h
    · rw [h]
      rcases Nat.le_total n a with q | q
      · rw [Nat.max_eq_right q]; exact .inr (List.mem_cons_self ..)
      · rw [Nat.max_eq_left q]; exact .inl rfl
    · exact .inr (List.mem_cons_of_mem _ h)
theorem fold_min_mem (ns : List Nat) : ∀ n : Nat, ns.foldl min n = n ∨ ns.foldl min n ∈ ns := by
  induction ns with
  | nil => intro n; exact .inl rfl
  | cons a ns ih =>
    intro n
    rw [List.foldl_cons]
    rcases ih (min n a) with h | h
    · rw [h]
      rcases Nat.le_total n a with q | q
      · rw [Nat.min_eq_left q]; exact .inl rfl
      · rw [Nat.min_eq_right q]; exact .inr (List.mem_cons_self ..)
    · exact .inr (List.mem_cons_of_mem _ h)
theorem mx_mem {l : List Nat} (h : l ≠ []) : mxN l ∈ l := by
  cases l with
  | nil => exact absurd rfl h
  | cons n ns =>
    rcases fold_max_mem ns n with q | q
    · show ns.foldl max n ∈ n :: ns
      rw [q]; exact List.mem_cons_self ..
    · exact List.mem_cons_of_mem _ q
theorem mn_mem {l : List Nat} (h : l ≠ []) : mnN l ∈ l := by
  cases l with
  | nil => exact absurd rfl h
  | cons n ns =>
    rcases fold_min_mem ns n with q | q
    · show ns.foldl min n ∈ n :: ns
      rw [q]; exact List.mem_cons_self ..
    · exact List.mem_cons_of_mem _ q
theorem mx_nat {n : Nat} {ns : List Nat} : PySem.W.maxD (natD n) (ns.map natD) = natD (mxN (n :: ns)) := by
  rw [cast_list]
  show PySem.W.maxD (.int (n : Nat)) _ = _
  rw [PySem.W.maxD_ints, fold_max]; rfl
theorem mn_nat {n : Nat} {ns : List Nat} : PySem.W.minD (natD n) (ns.map natD) = natD (mnN (n :: ns)) := by
  rw [cast_list]
  show PySem.W.minD (.int (n : Nat)) _ = _
  rw [PySem.W.minD_ints, fold_min]; rfl
theorem xMaxNL {l : List Nat} (h : l ≠ []) : gMax (.list (l.map natD)) = some (natD (mxN l)) := by
  cases l with
  | nil => exact absurd rfl h
  | cons n ns =>
    show (if likeOk ((n :: ns).map natD) = true then some (PySem.W.maxD (natD n) (ns.map natD)) else none) = _
    rw [like_nats, if_pos rfl, mx_nat]
theorem xMinNL {l : List Nat} (h : l ≠ []) : gMin (.list (l.map natD)) = some (natD (mnN l)) := by
  cases l with
  | nil => exact absurd rfl h
  | cons n ns =>
    show (if likeOk ((n :: ns).map natD) = true then some (PySem.W.minD (natD n) (ns.map natD)) else none) = _
    rw [like_nats, if_pos rfl, mn_nat]
theorem cntL_int (l : List Int) (i : Int) : gCountL (l.map .int) (.int i) = some (natD (l.count i)) := by
  unfold gCountL okIx
  rw [decide_eq_true (Nat.le_trans (Nat.min_le_left _ _) (depth_ints)), plain_ints]
  show some (PyData.int _) = some (PyData.int _)
  rw [List.countP_map, List.count]
  congr 3
theorem xCntT (l : List Int) (i : Int) : gCount (.tuple (l.map .int)) (.int i) = some (natD (l.count i)) := cntL_int l i
end LK

namespace LK
open PySem L2 PySem.Spec DL
/-! ### numbers of lessons by the law -/
theorem law_numbers_ok {us : List Int} (hl : us.length ≤ 100) : f__law_numbers (.tuple (us.map .int)) = some (.list ((sortSet us).map fun u => natD (us.count u))) := by
  have m1 : mapS ((sortSet us).map .int) (C__law_numbers_1 (.tuple (us.map .int))) = some ((sortSet us).map fun u => natD (us.count u)) := mapS_of fun u _ => by
    have f1 : filS (us.map .int) (C__law_numbers_2 (.int u)) = some ((us.filter fun x => decide (x = u)).map .int) := filS_of fun x _ => by
      simp -implicitDefEqProofs only [Option.bind_some, asB_bool, if_true, Bool.false_eq_true, if_false, xTruB, Bool.not_true, Bool.not_false, un2_ok, un3_ok, un2L_ok, xSeqL, xSeqT, xTupL, scInt, grd_true, thenS_nx, thenS_rt, xPrt, C__law_numbers_2, xEq]
      split <;> rfl
    have e : (us.filter fun x => decide (x = u)).length = us.count u := by
      rw [← List.countP_eq_length_filter, List.count]
      exact List.countP_congr fun x _ => by simp
    simp -implicitDefEqProofs only [Option.bind_some, asB_bool, if_true, Bool.false_eq_true, if_false, xTruB, Bool.not_true, Bool.not_false, un2_ok, un3_ok, un2L_ok, xSeqL, xSeqT, xTupL, scInt, grd_true, thenS_nx, thenS_rt, xPrt, C__law_numbers_1, f1, xLenL, List.length_map, e]
    rfl
  simp -implicitDefEqProofs only [Option.bind_some, asB_bool, if_true, Bool.false_eq_true, if_false, xTruB, Bool.not_true, Bool.not_false, un2_ok, un3_ok, un2L_ok, xSeqL, xSeqT, xTupL, scInt, grd_true, thenS_nx, thenS_rt, xPrt, f__law_numbers, xSortSetT (l := us) (by omega), m1]

end LK

namespace LK
open PySem L2 PySem.Spec DL
/-! ### schedules judged -/
def rival (p q : Les) : Bool := decide (p.1 = q.1) || decide (p.2 = q.2)
def hit (p q : Les × Int) : Bool := decide (p.2 = q.2) && rival p.1 q.1
def hitAt (ps : List (Les × Int)) (i j : Nat) : Bool := match ps[i]?, ps[j]? with
  | some p, some q => hit p q
  | _, _ => false
def conf (ps : List (Les × Int)) : Option (Nat × Nat) := (List.range ps.length).findSome? fun i => ((List.range' (i + 1) (ps.length - (i + 1))).find? fun j => hitAt ps i j).map fun j => (i, j)
def confD : Option (Nat × Nat) → PyData
  | some (i, j) => .tuple [.str "conflict", .int (i : Nat), .int (j : Nat)]
  | none => .none
def lesP (ps : List (Les × Int)) : PyData := .tuple (ps.map fun p => les p.1)
def hrsP (ps : List (Les × Int)) : PyData := .tuple (ps.map fun p => .int p.2)
theorem is_hour_ok (v : PyData) : f_is_hour v = some (.bool (isNum v 0 1000000)) := by
  simp [f_is_hour, is_number_ok]
theorem rivals_two {T G : PyData} {ls : List Les} {i j : Nat} (hi : i < ls.length) (hj : j < ls.length) (hij : i < j) : f_are_rivals (.tuple [T, G, .tuple (ls.map les)]) (.int (i : Nat)) (.int (j : Nat)) = some (.bool (rival ls[i] ls[j])) := by
  have h1 : i < (ls.map les).length := by simpa using hi
  have h2 : j < (ls.map les).length := by simpa using hj
  have h3 : ¬ ((i : Nat) : Int) = (j : Nat) := by omega
  simp [f_are_rivals, at_nat h1, at_nat h2, les, h3, rival]
  by_cases h : ls[i].1 = ls[j].1 <;> simp [h]
theorem conf_loop {T G : PyData} (ps : List (Les × Int)) (hn : ps.length ≤ 100000) {value : PyData} (hv : value = hrsP ps) :
    forS ((List.range ps.length).map natD) (L_schedule_error_1 (.tuple [T, G, lesP ps]) value (.int (ps.length : Nat))) () = some (rtO ((conf ps).map fun p => confD (some p)), ()) := by
  subst hv
  have inner : ∀ i, i < ps.length → L_schedule_error_1 (.tuple [T, G, lesP ps]) (hrsP ps) (.int (ps.length : Nat)) (natD i) () = some (rtO (((List.range' (i + 1) (ps.length - (i + 1))).find? fun j => hitAt ps i j).map fun j => confD (some (i, j))), ()) := fun i hi => by
    have hl : forS ((List.range' (i + 1) (ps.length - (i + 1))).map natD) (L_schedule_error_2 (.tuple [T, G, lesP ps]) (hrsP ps) (natD i)) () = some (rtO (((List.range' (i + 1) (ps.length - (i + 1))).find? fun j => hitAt ps i j).map fun j => confD (some (i, j))), ()) := by
      rw [forS_map]
      refine forS_find (fun j => hitAt ps i j) (fun j => confD (some (i, j))) fun j hj => ?_
      have hj' := List.mem_range'_1.mp hj
      have hj2 : j < ps.length := by omega
      have e1 : ps.map (fun p => les p.1) = (ps.map (·.1)).map les := by rw [List.map_map]; rfl
      have hr := rivals_two (T := T) (G := G) (ls := ps.map (·.1)) (i := i) (j := j) (by simpa using hi) (by simpa using hj2) (by omega)
      rw [← e1] at hr
      have h1 : i < (ps.map fun p => PyData.int p.2).length := by simpa using hi
      have h2 : j < (ps.map fun p => PyData.int p.2).length := by simpa using hj2
      have g1 : gIx (hrsP ps) (natD i) = some (.int ps[i].2) := by
        show atI (ps.map fun p => PyData.int p.2) ((i : Nat) : Int) = _
        rw [at_nat h1]; simp
      have g2 : gIx (hrsP ps) (natD j) = some (.int ps[j].2) := by
        show atI (ps.map fun p => PyData.int p.2) ((j : Nat) : Int) = _
        rw [at_nat h2]; simp
      have hh : hitAt ps i j = (decide (ps[i].2 = ps[j].2) && rival ps[i].1 ps[j].1) := by
        unfold hitAt
        rw [List.getElem?_eq_getElem hi, List.getElem?_eq_getElem hj2]
        rfl
      have hr' : f_are_rivals (.tuple [T, G, lesP ps]) (natD i) (natD j) = some (.bool (rival ps[i].1 ps[j].1)) := by simpa [lesP, natD] using hr
      simp only [L_schedule_error_2, g1, g2, Option.bind_some, xEq, asB_bool, hr', hh]
      by_cases hc : ps[i].2 = ps[j].2
      · simp [hc, confD, natD]
        cases rival ps[i].1 ps[j].1 <;> rfl
      · simp [hc]
    have hr2 : rng2 (.int ((i : Nat) + 1)) (.int (ps.length : Nat)) = some ((List.range' (i + 1) (ps.length - (i + 1))).map natD) := rng2_nat (m := i + 1) (by omega) (by omega)
    simp only [L_schedule_error_1, natD, xAdd, Option.bind_some, hr2]
    show (forS ((List.range' (i + 1) (ps.length - (i + 1))).map natD) (L_schedule_error_2 (.tuple [T, G, lesP ps]) (hrsP ps) (natD i)) ()).bind _ = _
    rw [hl]
    simp only [Option.bind_some, thenS_rtO]
    cases ((List.range' (i + 1) (ps.length - (i + 1))).find? fun j => hitAt ps i j) <;> rfl
  rw [forS_map, forS_findSome (fun i => ((List.range' (i + 1) (ps.length - (i + 1))).find? fun j => hitAt ps i j).map fun j => confD (some (i, j))) fun i hi => inner i (List.mem_range.mp hi)]
  unfold conf
  congr 3
  induction List.range ps.length with
  | nil => rfl
  | cons i l ih =>
    rw [List.findSome?_cons, List.findSome?_cons]
    cases (List.range' (i + 1) (ps.length - (i + 1))).find? fun j => hitAt ps i j with
    | none => exact ih
    | some j => rfl
theorem sched_ok {T G : PyData} (ps : List (Les × Int)) (hn : ps.length ≤ 100000) (hr : ∀ p ∈ ps, 0 ≤ p.2 ∧ p.2 ≤ 1000000) : f_schedule_error (.tuple [T, G, lesP ps]) (hrsP ps) = some (confD (conf ps)) := by
  have h1 : mapS (ps.map fun p => PyData.int p.2) C_schedule_error_1 = some (ps.map fun _ => .bool true) := mapS_of fun p hp => by
    simp [C_schedule_error_1, is_hour_ok, isNum, hr p hp]
  have h2 : gAll (.list (ps.map fun _ => .bool true)) = some (.bool true) := by
    rw [xAllB]; simp
  have h3 := conf_loop (T := T) (G := G) ps hn rfl
  have e1 : gIx (.tuple [T, G, lesP ps]) (.int 2) = some (lesP ps) := by simp
  have e2 : gLen (lesP ps) = some (.int (ps.length : Nat)) := by simp [lesP]
  have e3 : gLen (hrsP ps) = some (.int (ps.length : Nat)) := by simp [hrsP]
  have e4 : seqD (hrsP ps) = some (ps.map fun p => PyData.int p.2) := rfl
  have e5 : (hrsP ps).isTuple = true := rfl
  simp only [f_schedule_error, e1, e2, e3, e4, e5, Option.bind_some, xIsa, gTruth, PyData.truthy, Bool.not_true, xNe, decide_true, asB_bool, h1, h2, rng1_nat (show ps.length ≤ 1000000 by omega), h3]
  simp only [thenS_rtO]
  cases conf ps <;> rfl
def Free (ps : List (Les × Int)) : Prop := ps.Pairwise fun p q => hit p q = false
theorem rival_symm (p q : Les) : rival p q = rival q p := by
  unfold rival
  rw [decide_eq_decide.mpr (eq_comm (a := p.1) (b := q.1)), decide_eq_decide.mpr (eq_comm (a := p.2) (b := q.2))]
theorem hit_symm (p q : Les × Int) : hit p q = hit q p := by
  unfold hit
  rw [rival_symm p.1, decide_eq_decide.mpr (eq_comm (a := p.2) (b := q.2))]
theorem conf_none {ps : List (Les × Int)} : conf ps = none ↔ Free ps := by
  unfold conf Free
  rw [List.findSome?_eq_none_iff, List.pairwise_iff_getElem]
  constructor
  · intro h i j hi hj hij
    have h1 := h i (List.mem_range.mpr hi)
    rw [Option.map_eq_none_iff, List.find?_eq_none] at h1
    have h2 := h1 j (List.mem_range'_1.mpr ⟨by omega, by omega⟩)
    unfold hitAt at h2
    rw [List.getElem?_eq_getElem hi, List.getElem?_eq_getElem hj] at h2
    simpa using h2
  · intro h i hi
    rw [Option.map_eq_none_iff, List.find?_eq_none]
    intro j hj
    have h0 := List.mem_range.mp hi
    have h1 := List.mem_range'_1.mp hj
    have h2 : j < ps.length := by omega
    unfold hitAt
    rw [List.getElem?_eq_getElem h0, List.getElem?_eq_getElem h2]
    simpa using h i j h0 h2 (by omega)
theorem Free.perm {ps qs : List (Les × Int)} (h : ps.Perm qs) : Free ps ↔ Free qs := h.pairwise_iff fun {p q} e => by rw [hit_symm]; exact e

end LK

namespace LK
open PySem L2 PySem.Spec DL
/-! ### weights of texts -/
theorem vl_textI {n s : Nat} {i : Int} (h : wt (.int i) ≤ s) : Vl n (s + 222) (.str (Str.ofString (toString i))) := by
  refine ⟨rfl, Nat.zero_le _, ?_⟩
  have h1 := StrLaws.reprText_len (Str.ofString (toString i)) fun c hc => by
    rw [PySem.Str.ofString_eq_toList] at hc
    obtain ⟨ch, _, rfl⟩ := List.mem_map.mp (show c ∈ (toString i).toList.map Char.toNat by simpa using hc)
    have : ch.toNat < 4294967296 := ch.val.toNat_lt
    exact this
  have h2 := int_shown i
  have h3 : (PyData.int i).shown.length = (Str.ofString (toString i)).length := rfl
  have h4 : wt (.int i) = 64 * i.natAbs.log2 + 20 := by rw [DL.wt]
  show (reprText _).length + 20 ≤ _
  omega
theorem wt_int_le {i : Int} {k : Nat} (h : i.natAbs < 2 ^ k) : wt (.int i) ≤ 64 * k + 20 := by
  rw [DL.wt]
  by_cases z : i.natAbs = 0
  · rw [z]; simp
  · have := (Nat.log2_lt (k := k) z).mpr h
    omega
theorem wt_int_add {i c : Int} {w : Nat} (h : wt (.int i) ≤ w) (hc : c.natAbs < 2 ^ 20) : wt (.int (i + c)) ≤ w + 1344 := by
  rw [DL.wt] at h
  have h1 : i.natAbs < 2 ^ (i.natAbs.log2 + 1) := by
    by_cases z : i.natAbs = 0
    · rw [z]; decide
    · exact Nat.lt_log2_self
  have h2 : (i + c).natAbs < 2 ^ (i.natAbs.log2 + 1 + 20) := by
    have a1 : 2 ^ (i.natAbs.log2 + 1) ≤ 2 ^ (i.natAbs.log2 + 20) := Nat.pow_le_pow_right (by decide) (by omega)
    have a2 : 2 ^ 20 ≤ 2 ^ (i.natAbs.log2 + 20) := Nat.pow_le_pow_right (by decide) (by omega)
    have a3 : 2 ^ (i.natAbs.log2 + 1 + 20) = 2 ^ (i.natAbs.log2 + 20) + 2 ^ (i.natAbs.log2 + 20) := by rw [show i.natAbs.log2 + 1 + 20 = i.natAbs.log2 + 20 + 1 by omega, Nat.pow_succ]; omega
    omega
  have := wt_int_le h2
  omega
theorem vl_int_of {n s : Nat} {i : Int} (h : wt (.int i) ≤ s) (hs : s ≤ 120000) : Vl n s (.int i) := by
  refine ⟨?_, Nat.zero_le _, h⟩
  rw [DL.wt] at h
  show decide (i.natAbs.log2 < 1920) = true
  exact decide_eq_true (by omega)
theorem Vl.log {n s : Nat} {i : Int} (h : Vl n s (.int i)) : i.natAbs.log2 < 1920 := of_decide_eq_true h.sh
theorem vl_smallI {n s : Nat} {i : Int} {k : Nat} (hk : k ≤ 1000) (h : i.natAbs < 2 ^ k) (hs : 64 * k + 20 ≤ s) : Vl n s (.int i) := (vl_int_of (s := 64 * k + 20) (wt_int_le h) (by omega)).mono (Nat.le_refl _) hs
theorem xStr {i : Int} (h : i.natAbs.log2 < 1920) : gStr (.int i) = some (.str (Str.ofString (toString i))) := if_pos ⟨h, int_text_fits h⟩
@[simp] theorem xStrB {b : Bool} : gStr (.bool b) = some (.str (if b = true then "True" else "False")) := rfl
theorem VlL.slice {n s t : Nat} {x : PyData} : ∀ {xs : List PyData} (k : Nat), VlL n s xs → k < xs.length → Vl n t x → VlL n (s + t) (xs.take k ++ x :: xs.drop (k + 1))
  | [], k, _, hk, _ => by simp at hk
  | y :: ys, 0, h, _, hx => by
    obtain ⟨s1, s2, h1, h2, h3⟩ := h.split
    exact (VlL.cons hx h2).mono (Nat.le_refl _) (by omega)
  | y :: ys, k + 1, h, hk, hx => by
    obtain ⟨s1, s2, h1, h2, h3⟩ := h.split
    exact (VlL.cons h1 (VlL.slice k h2 (by simpa using hk) hx)).mono (Nat.le_refl _) (by omega)

end LK

namespace LK
open PySem L2 PySem.Spec DL
/-! ### schedules judged, whatever the value -/
def toI : PyData → Int
  | .int i => i
  | _ => 0
def hoursE : PyData := .tuple [.str "hours"]
def allNum (xs : List PyData) : Bool := xs.all fun x => isNum x 0 1000000
def schE (ls : List Les) (v : PyData) : PyData := match v with
  | .tuple xs => if xs.length = ls.length ∧ allNum xs = true then confD (conf (ls.zip (xs.map toI))) else hoursE
  | _ => hoursE
theorem allNum_ps {ls : List Les} {xs : List PyData} (hl : xs.length = ls.length) (h : allNum xs = true) : ∃ ps : List (Les × Int), ps.length = ls.length ∧ ls = ps.map (·.1) ∧ xs = ps.map (fun p => .int p.2) ∧ ls.zip (xs.map toI) = ps ∧ ∀ p ∈ ps, 0 ≤ p.2 ∧ p.2 ≤ 1000000 := by
  refine ⟨ls.zip (xs.map toI), by simp [hl], (List.map_fst_zip (by simp [hl])).symm, ?_, rfl, fun p hp => ?_⟩
  · have e : (ls.zip (xs.map toI)).map (fun p => PyData.int p.2) = ((ls.zip (xs.map toI)).map (·.2)).map PyData.int := by rw [List.map_map]; rfl
    rw [e, List.map_snd_zip (by simp [hl]), List.map_map]
    have : ∀ x ∈ xs, (PyData.int ∘ toI) x = x := fun x hx => by
      obtain ⟨i, rfl, _⟩ := isNum_int (List.all_eq_true.mp h x hx)
      rfl
    rw [List.map_congr_left this, List.map_id']
  · have : p.2 ∈ xs.map toI := by
      have := List.mem_map_of_mem (f := (·.2)) hp
      rwa [List.map_snd_zip (by simp [hl])] at this
    obtain ⟨x, hx, e⟩ := List.mem_map.mp this
    obtain ⟨i, rfl, h0, h1⟩ := isNum_int (List.all_eq_true.mp h x hx)
    rw [← e]; exact ⟨h0, h1⟩
theorem lesP_of {ls : List Les} {ps : List (Les × Int)} (h : ls = ps.map (·.1)) : PyData.tuple (ls.map les) = lesP ps := by
  unfold lesP; rw [h, List.map_map]; rfl
theorem sched_any {T G : PyData} (ls : List Les) (hn : ls.length ≤ 100000) (v : PyData) : f_schedule_error (.tuple [T, G, .tuple (ls.map les)]) v = some (schE ls v) := by
  cases v with
  | tuple xs =>
    by_cases hl : xs.length = ls.length
    · by_cases ha : allNum xs = true
      · obtain ⟨ps, pl, p1, p2, p3, p4⟩ := allNum_ps hl ha
        have := sched_ok (T := T) (G := G) ps (by omega) p4
        rw [lesP_of p1]
        show _ = some (if _ then _ else _)
        rw [if_pos ⟨hl, ha⟩, p3, p2]
        exact this
      · show _ = some (if _ then _ else _)
        rw [if_neg fun z => ha z.2]
        have h1 : mapS xs C_schedule_error_1 = some (xs.map fun x => .bool (isNum x 0 1000000)) := mapS_ok fun x _ => by
          simp [C_schedule_error_1, is_hour_ok]
        have h2 : gAll (.list (xs.map fun x => .bool (isNum x 0 1000000))) = some (.bool (allNum xs)) := xAllB
        rw [Bool.not_eq_true] at ha
        have e1 : gLen (.tuple (ls.map les)) = some (.int (ls.length : Nat)) := by simp
        have e2 : gLen (.tuple xs) = some (.int (ls.length : Nat)) := by rw [← hl]; rfl
        have e3 : gIx (.tuple [T, G, .tuple (ls.map les)]) (.int 2) = some (.tuple (ls.map les)) := by simp
        simp -implicitDefEqProofs only [f_schedule_error, e1, e2, e3, Option.bind_some, xIsa, PyData.isTuple, gTruth, PyData.truthy, Bool.not_true, Bool.false_eq_true, if_false, xNe, decide_true, asB_bool, xSeqT, h1, h2, ha, Bool.not_false, if_true]
        rfl
    · show _ = some (if _ then _ else _)
      rw [if_neg fun z => hl z.1]
      have h' : ¬ ((xs.length : Int) = ls.length) := by omega
      simp [f_schedule_error, PyData.isTuple, h', hoursE]
  | _ => simp [f_schedule_error, PyData.isTuple, schE, hoursE]
theorem is_any {T G : PyData} (ls : List Les) (hn : ls.length ≤ 100000) (v : PyData) : f_is_schedule (.tuple [T, G, .tuple (ls.map les)]) v = some (.bool (isN (schE ls v))) := by
  simp [f_is_schedule, sched_any ls hn v]
end LK

namespace LK
open PySem L2 PySem.Spec DL
theorem les_vl {p : Int × Int} {k : Nat} {c : Int} (hk : k ≤ 1000) (hc : c.natAbs ≤ 2 ^ k) (h : 0 ≤ p.1 ∧ p.1 < c ∧ 0 ≤ p.2 ∧ p.2 < c) : Vl 2 (128 * k + 64) (les p) :=
  ((VlL.cons (vl_smallI (n := 1) (k := k) hk (by omega) (Nat.le_refl _)) (VlL.cons (vl_smallI (k := k) hk (by omega) (Nat.le_refl _)) (VlL.nil (s := 0)))).tuple).mono (by decide) (by omega)
theorem ros_vl {n m : Nat} {R : Ros} (h : RosOk n m R) (k : Nat) (hk : k ≤ 1000) (hn : n < 2 ^ k) : Vl 4 (128 * k + 100 + (128 * k + 66) * m) (rosD R) := by
  have t0 := h.T0
  have t1 := h.T1
  have g0 := h.G0
  have g1 := h.G1
  have hl : VlL 2 (R.ls.length * (128 * k + 66)) (R.ls.map les) := vl_map (c := 128 * k + 64) fun p hp => les_vl (k := k) (c := n) hk (by omega) (by have := h.ok p hp; omega)
  have := Nat.mul_le_mul_right (128 * k + 66) h.len
  rw [Nat.mul_comm m] at this
  exact ((VlL.cons (vl_smallI (n := 3) (k := k) hk (by omega) (Nat.le_refl _)) (VlL.cons (vl_smallI (k := k) hk (by omega) (Nat.le_refl _)) (VlL.cons hl.tuple (VlL.nil (s := 0))))).tuple).mono (by decide) (by omega)

end LK

namespace LK
open PySem L2 PySem.Spec DL
/-! ### one shown text is shown by one value alone: ((), ('none',)) -/
def shL (v : PyData) : List Nat := TL.tl v.shown
theorem tl_fold (q : Nat) : ∀ (l : List Nat) (acc : Array Nat), (l.foldl (fun out c => out ++ (Builtin.Str.reprChar q c).toArray) acc).toList = acc.toList ++ l.flatMap (Builtin.Str.reprChar q)
  | [], acc => by simp
  | c :: l, acc => by
    rw [List.foldl_cons, tl_fold q l, Array.toList_append, List.flatMap_cons, List.append_assoc]
theorem sh_str (s : Str) : shL (.str s) = reprQuote s :: ((TL.tl s).flatMap (Builtin.Str.reprChar (reprQuote s)) ++ [reprQuote s]) := by
  show (reprText s).cps.toList = _
  unfold reprText
  rw [Array.toList_push, ← Array.foldl_toList, tl_fold]; rfl
theorem sh_tup (xs : List PyData) : shL (.tuple xs) = 40 :: (TL.joinL [44, 32] (xs.map shL) ++ (if xs.length = 1 then [44, 41] else [41])) := by
  unfold shL
  rw [PyData.shown_tuple, TL.tl_append, TL.tl_append, TL.tl_join, shownAll_map, List.map_map]
  have e1 : TL.tl ("(" : Str) = [40] := by decide +kernel
  have e2 : TL.tl (", " : Str) = [44, 32] := by decide +kernel
  have e3 : TL.tl ((if (xs.length == 1) = true then ",)" else ")" : String) : Str) = if xs.length = 1 then [44, 41] else [41] := by
    by_cases c : xs.length = 1
    · rw [if_pos c, c]; decide +kernel
    · rw [if_neg c, beq_false_of_ne c]; decide +kernel
  rw [e1, e2, e3]; rfl
theorem tl_from : ∀ (ts : List Str) (k : Nat) (acc : Str), ∃ r, TL.tl (textFrom k acc ts) = TL.tl acc ++ r
  | [], _, acc => ⟨[], by rw [List.append_nil]; rfl⟩
  | t :: ts, k, acc => by
    obtain ⟨r, e⟩ := tl_from ts (k + 1) (acc ++ (if k > 0 then ", " else "" : String) ++ t)
    rw [TL.tl_append, TL.tl_append, List.append_assoc, List.append_assoc] at e
    exact ⟨_, e⟩
theorem sh_head (v : PyData) : ∃ c r, shL v = c :: r ∧ c ≠ 41 ∧ (c = 40 → ∃ xs, v = .tuple xs) ∧ (c = 39 → ∃ s, v = .str s) := by
  cases v with
  | none => exact ⟨78, [111, 110, 101], by decide +kernel, by decide, nofun, nofun⟩
  | bool b =>
    cases b
    · exact ⟨70, [97, 108, 115, 101], by decide +kernel, by decide, nofun, nofun⟩
    · exact ⟨84, [114, 117, 101], by decide +kernel, by decide, nofun, nofun⟩
  | int i =>
    cases i with
    | ofNat n =>
      have e : shL (.int (Int.ofNat n)) = TL.numL n := TL.tl_num n
      cases q : TL.numL n with
      | nil => exact absurd q (TL.numL_ne n)
      | cons c r =>
        have dg := TL.numL_digits n c (by rw [q]; exact List.mem_cons_self ..)
        exact ⟨c, r, by rw [e, q], by omega, fun z => by omega, fun z => by omega⟩
    | negSucc n =>
      have e : shL (.int (Int.negSucc n)) = 45 :: (toString (n + 1)).toList.map Char.toNat := by
        show TL.tl (Str.ofString (toString (Int.negSucc n))) = _
        rw [TL.tl_ofString]
        have : toString (Int.negSucc n) = "-" ++ toString (n + 1) := rfl
        rw [this, String.toList_append]; rfl
      exact ⟨45, _, e, by decide, nofun, nofun⟩
  | str s =>
    refine ⟨_, _, sh_str s, ?_, fun z => ?_, fun _ => ⟨s, rfl⟩⟩
    · unfold reprQuote; split <;> decide
    · unfold reprQuote at z; split at z <;> cases z
  | list xs =>
    obtain ⟨r, e⟩ := tl_from (PyData.shownAll xs) 0 "["
    have e1 : TL.tl ("[" : Str) = [91] := by decide +kernel
    refine ⟨91, r ++ TL.tl ("]" : Str), ?_, by decide, nofun, nofun⟩
    unfold shL
    rw [PyData.shown, listText, TL.tl_append, e, e1]; rfl
  | tuple xs => exact ⟨40, _, sh_tup xs, by decide, fun _ => ⟨xs, rfl⟩, nofun⟩
  | dict kvs =>
    have e1 : TL.tl ("{" : Str) = [123] := by decide +kernel
    refine ⟨123, TL.tl (Str.join ", " (PyData.shownKv kvs)) ++ TL.tl ("}" : Str), ?_, by decide, nofun, nofun⟩
    unfold shL
    rw [PyData.shown_dict, TL.tl_append, TL.tl_append, e1]; rfl
theorem char39 (c : Nat) : (Builtin.Str.reprChar 39 c = [c] ∧ c ≠ 39) ∨ ∃ t, Builtin.Str.reprChar 39 c = 92 :: t := by
  unfold Builtin.Str.reprChar
  dsimp only
  by_cases h : (c == 39 || c == 92) = true
  · rw [if_pos h]; exact .inr ⟨_, rfl⟩
  · rw [if_neg h]
    have n : c ≠ 39 := fun z => h (by rw [z]; rfl)
    split
    · exact .inr ⟨_, rfl⟩
    split
    · exact .inr ⟨_, rfl⟩
    split
    · exact .inr ⟨_, rfl⟩
    split
    · exact .inl ⟨rfl, n⟩
    split
    · exact .inr ⟨_, rfl⟩
    split
    · exact .inr ⟨_, rfl⟩
    · exact .inr ⟨_, rfl⟩
theorem read39 : ∀ (w cs Y W : List Nat), (∀ x ∈ w, x ≠ 39 ∧ x ≠ 92) → cs.flatMap (Builtin.Str.reprChar 39) ++ (39 :: Y) = w ++ (39 :: W) → cs = w ∧ Y = W
  | [], [], Y, W, _, h => by
    have h : 39 :: Y = 39 :: W := h
    injection h with _ h
    exact ⟨rfl, h⟩
  | [], c :: cs, Y, W, _, h => by
    rw [List.flatMap_cons] at h
    rcases char39 c with ⟨e, n⟩ | ⟨t, e⟩
    · rw [e] at h
      have h : c :: (cs.flatMap (Builtin.Str.reprChar 39) ++ (39 :: Y)) = 39 :: W := h
      injection h with h1 _
      exact absurd h1 n
    · rw [e] at h
      have h : 92 :: (t ++ cs.flatMap (Builtin.Str.reprChar 39) ++ (39 :: Y)) = 39 :: W := h
      injection h with h1 _
      cases h1
  | x :: w, [], Y, W, hw, h => by
    have h : 39 :: Y = x :: (w ++ 39 :: W) := h
    injection h with h1 _
    exact absurd h1.symm (hw x (List.mem_cons_self ..)).1
  | x :: w, c :: cs, Y, W, hw, h => by
    rw [List.flatMap_cons] at h
    rcases char39 c with ⟨e, n⟩ | ⟨t, e⟩
    · rw [e] at h
      have h : c :: (cs.flatMap (Builtin.Str.reprChar 39) ++ (39 :: Y)) = x :: (w ++ 39 :: W) := h
      injection h with h1 h2
      obtain ⟨k1, k2⟩ := read39 w cs Y W (fun y hy => hw y (List.mem_cons_of_mem _ hy)) h2
      exact ⟨by rw [h1, k1], k2⟩
    · rw [e] at h
      have h : 92 :: (t ++ cs.flatMap (Builtin.Str.reprChar 39) ++ (39 :: Y)) = x :: (w ++ 39 :: W) := h
      injection h with h1 _
      exact absurd h1.symm (hw x (List.mem_cons_self ..)).2
theorem joinL_head {s a : List Nat} {c : Nat} {r : List Nat} (e : a = c :: r) : ∀ ps : List (List Nat), ∃ t, TL.joinL s (a :: ps) = c :: t
  | [] => ⟨r, e⟩
  | p :: ps => ⟨r ++ (s ++ TL.joinL s (p :: ps)), by rw [e]; rfl⟩
def noneV : PyData := .tuple [.tuple [], .tuple [.str "none"]]
def noneT : List Nat := [40, 40, 41, 44, 32, 40, 39, 110, 111, 110, 101, 39, 44, 41, 41]
theorem sh_none : shL noneV = noneT := by decide +kernel
theorem sh_only {v : PyData} (h : shL v = noneT) : v = noneV := by
  obtain ⟨c, r, e, _, h1, _⟩ := sh_head v
  have h0 := h
  rw [e] at h0
  injection h0 with h2 _
  obtain ⟨xs, rfl⟩ := h1 h2
  clear e h1 h2
  rw [sh_tup] at h
  unfold noneT at h
  injection h with _ h
  match xs, h with
  | [], h =>
    have h : [41] = [40, 41, 44, 32, 40, 39, 110, 111, 110, 101, 39, 44, 41, 41] := h
    cases h
  | [a], h =>
    have h : shL a ++ [44, 41] = [40, 41, 44, 32, 40, 39, 110, 111, 110, 101, 39, 44, 41, 41] := h
    have h := congrArg List.reverse h
    rw [List.reverse_append] at h
    have h : 41 :: 44 :: (shL a).reverse = 41 :: 41 :: [44, 39, 101, 110, 111, 110, 39, 40, 32, 44, 41, 40] := h
    injection h with _ h
    injection h with h _
    cases h
  | a :: b :: r, h =>
    rw [if_neg (by simp)] at h
    have h : (shL a ++ ([44, 32] ++ TL.joinL [44, 32] ((b :: r).map shL))) ++ [41] = [40, 41, 44, 32, 40, 39, 110, 111, 110, 101, 39, 44, 41, 41] := h
    obtain ⟨c, q, e, _, h1, _⟩ := sh_head a
    have h0 := h
    rw [e] at h0
    injection h0 with h2 _
    obtain ⟨ys, rfl⟩ := h1 h2
    clear e h1 h2
    rw [sh_tup] at h
    injection h with _ h
    match ys, h with
    | y :: yr, h =>
      obtain ⟨c, q, e, n, _⟩ := sh_head y
      obtain ⟨t, et⟩ := joinL_head (s := [44, 32]) e (yr.map shL)
      have h : TL.joinL [44, 32] (shL y :: yr.map shL) ++ _ ++ _ ++ [41] = _ := h
      rw [et] at h
      injection h with h _
      exact absurd h n
    | [], h =>
      have h : 41 :: 44 :: 32 :: (TL.joinL [44, 32] (shL b :: r.map shL) ++ [41]) = [41, 44, 32, 40, 39, 110, 111, 110, 101, 39, 44, 41, 41] := h
      injection h with _ h
      injection h with _ h
      injection h with _ h
      obtain ⟨X, eX, hX⟩ : ∃ X, TL.joinL [44, 32] (shL b :: r.map shL) = shL b ++ X ∧ (X = [] → r = []) := by
        cases r with
        | nil => exact ⟨[], (List.append_nil _).symm, fun _ => rfl⟩
        | cons r0 r1 => exact ⟨[44, 32] ++ TL.joinL [44, 32] ((r0 :: r1).map shL), rfl, nofun⟩
      rw [eX] at h
      obtain ⟨c, q, e, _, h1, _⟩ := sh_head b
      have h0 := h
      rw [e] at h0
      injection h0 with h2 _
      obtain ⟨zs, rfl⟩ := h1 h2
      clear e h1 h2 eX
      rw [sh_tup] at h
      injection h with _ h
      match zs, h with
      | [], h =>
        have h : 41 :: (X ++ [41]) = [39, 110, 111, 110, 101, 39, 44, 41, 41] := h
        cases h
      | z :: zr, h =>
        obtain ⟨Z, eZ, hZ⟩ : ∃ Z, TL.joinL [44, 32] ((z :: zr).map shL) ++ (if (z :: zr).length = 1 then [44, 41] else [41]) = shL z ++ Z ∧ (zr = [] ∧ Z = [44, 41] ∨ ∃ t, Z = 44 :: 32 :: t) := by
          cases zr with
          | nil => exact ⟨[44, 41], rfl, .inl ⟨rfl, rfl⟩⟩
          | cons z0 z1 =>
            rw [if_neg (by simp)]
            refine ⟨[44, 32] ++ TL.joinL [44, 32] ((z0 :: z1).map shL) ++ [41], ?_, .inr ⟨_, rfl⟩⟩
            show shL z ++ ([44, 32] ++ TL.joinL [44, 32] ((z0 :: z1).map shL)) ++ [41] = _
            rw [List.append_assoc, List.append_assoc]
        rw [eZ] at h
        obtain ⟨c, q, e, _, _, h1⟩ := sh_head z
        have h0 := h
        rw [e] at h0
        injection h0 with h2 _
        obtain ⟨s, rfl⟩ := h1 h2
        clear e h1 h2 eZ
        rw [sh_str] at h
        injection h with hq h
        rw [hq] at h
        have h : (TL.tl s).flatMap (Builtin.Str.reprChar 39) ++ [39] ++ Z ++ X ++ [41] = [110, 111, 110, 101] ++ (39 :: [44, 41, 41]) := h
        rw [List.append_assoc, List.append_assoc, List.append_assoc] at h
        obtain ⟨k1, k2⟩ := read39 [110, 111, 110, 101] (TL.tl s) (Z ++ (X ++ [41])) [44, 41, 41] (by decide) h
        have es : s = ("none" : Str) := TL.ext_tl (by rw [k1]; decide +kernel)
        subst es
        rcases hZ with ⟨rfl, rfl⟩ | ⟨t, rfl⟩
        · have k2 : 44 :: 41 :: (X ++ [41]) = [44, 41, 41] := k2
          injection k2 with _ k2
          injection k2 with _ k2
          have x0 : X = [] := by
            cases X with
            | nil => rfl
            | cons x X =>
              have k2 : x :: (X ++ [41]) = [41] := k2
              injection k2 with _ k2
              cases X <;> cases k2
          rw [hX x0]; rfl
        · injection k2 with _ k2
          injection k2 with k2 _
          cases k2

end LK

namespace LK
open PySem L2 PySem.Spec DL
/-! ### the law's judgement of schedules, whatever the value -/
theorem law_riv_two {T G : PyData} {ls : List Les} {i j : Nat} (hi : i < ls.length) (hj : j < ls.length) (hij : i < j) : f__law_are_rivals (.tuple [T, G, .tuple (ls.map les)]) (.int (i : Nat)) (.int (j : Nat)) = some (.bool (rival ls[i] ls[j])) := by
  have h1 : i < (ls.map les).length := by simpa using hi
  have h2 : j < (ls.map les).length := by simpa using hj
  have h3 : ¬ ((i : Nat) : Int) = (j : Nat) := by omega
  simp [f__law_are_rivals, at_nat h1, at_nat h2, les, h3, rival]
  by_cases h : ls[i].1 = ls[j].1 <;> simp [h]
theorem law_bad (d : PyData) : C__law_is_schedule_1 d = some (if isNum d 0 1000000 = true then none else some d) := by
  have p6 : gPow (.int 10) (.int 6) = some (.int 1000000) := xPow (by decide) (by decide) (by decide)
  cases d with
  | int i =>
    have w : f__law_whole (.int i) = some (.bool true) := rfl
    have l0 : gLe (.int 0) (.int i) = some (.bool (decide (0 ≤ i))) := xLe
    have l1 : gLe (.int i) (.int 1000000) = some (.bool (decide (i ≤ 1000000))) := xLe
    have e : isNum (.int i) 0 1000000 = decide (0 ≤ i ∧ i ≤ 1000000) := rfl
    rw [e]
    by_cases c0 : 0 ≤ i
    · by_cases c1 : i ≤ 1000000
      · simp -implicitDefEqProofs only [C__law_is_schedule_1, w, xTruB, Bool.not_true, Bool.false_eq_true, if_false, l0, decide_eq_true c0, ifB_bool, if_true, p6, l1, decide_eq_true c1, asB_bool, decide_eq_true (And.intro c0 c1), Option.bind_some]
      · simp -implicitDefEqProofs only [C__law_is_schedule_1, w, xTruB, Bool.not_true, Bool.false_eq_true, if_false, l0, decide_eq_true c0, ifB_bool, if_true, p6, l1, decide_eq_false c1, asB_bool, decide_eq_false (fun z : 0 ≤ i ∧ i ≤ 1000000 => c1 z.2), Bool.not_false, Option.bind_some]
    · simp -implicitDefEqProofs only [C__law_is_schedule_1, w, xTruB, Bool.not_true, Bool.false_eq_true, if_false, l0, decide_eq_false c0, ifB_bool, asB_bool, decide_eq_false (fun z : 0 ≤ i ∧ i ≤ 1000000 => c0 z.1), Bool.not_false, if_true, Option.bind_some]
  | _ => rfl
theorem fil_bad (xs : List PyData) : filS xs C__law_is_schedule_1 = some (xs.filter fun x => !isNum x 0 1000000) := by
  have := filS_of (l := xs) (m := fun x => x) (f := C__law_is_schedule_1) (p := fun x => !isNum x 0 1000000) (g := fun x => x) fun x _ => by
    rw [law_bad]
    cases isNum x 0 1000000 <;> rfl
  rw [List.map_id', List.map_id'] at this
  exact this
theorem hit_at {ps : List (Les × Int)} {k i : Nat} (hk : k < ps.length) (hi : i < ps.length) : hitAt ps k i = (decide (ps[k].2 = ps[i].2) && rival ps[k].1 ps[i].1) := by
  unfold hitAt
  rw [List.getElem?_eq_getElem hk, List.getElem?_eq_getElem hi]; rfl
theorem law_hits {T G : PyData} {ps : List (Les × Int)} {i : Nat} (hi : i < ps.length) : filS ((List.range i).map natD) (C__law_is_schedule_2 (.tuple [T, G, lesP ps]) (hrsP ps) (natD i)) = some (((List.range i).filter fun k => hitAt ps k i).map natD) := filS_of fun k hk => by
  have hk' := List.mem_range.mp hk
  have k1 : k < ps.length := by omega
  have g1 : gIx (hrsP ps) (natD k) = some (.int ps[k].2) := by
    have := at_nat (l := ps.map fun p => PyData.int p.2) (n := k) (by simpa using k1)
    rw [List.getElem_map] at this
    exact this
  have g2 : gIx (hrsP ps) (natD i) = some (.int ps[i].2) := by
    have := at_nat (l := ps.map fun p => PyData.int p.2) (n := i) (by simpa using hi)
    rw [List.getElem_map] at this
    exact this
  have rv : f__law_are_rivals (.tuple [T, G, lesP ps]) (natD k) (natD i) = some (.bool (rival ps[k].1 ps[i].1)) := by
    have := law_riv_two (T := T) (G := G) (ls := ps.map (·.1)) (i := k) (j := i) (by simpa using k1) (by simpa using hi) hk'
    rw [lesP_of rfl, List.getElem_map, List.getElem_map] at this
    exact this
  rw [hit_at k1 hi]
  simp -implicitDefEqProofs only [C__law_is_schedule_2, g1, g2, xEq, asB_bool, rv, xTruB, Option.bind_some]
  by_cases c : ps[k].2 = ps[i].2
  · rw [decide_eq_true c]
    simp only [if_true, Option.bind_some, Bool.true_and]
    cases rival ps[k].1 ps[i].1 <;> rfl
  · rw [decide_eq_false c]; rfl
theorem law_sch_any {T G : PyData} (ls : List Les) (hn : ls.length ≤ 1000) (v : PyData) : f__law_is_schedule (.tuple [T, G, .tuple (ls.map les)]) v = some (.bool (isN (schE ls v))) := by
  have i2 : gIx (.tuple [T, G, .tuple (ls.map les)]) (.int 2) = some (.tuple (ls.map les)) := rfl
  have ln : gLen (.tuple (ls.map les)) = some (.int (ls.length : Nat)) := by rw [xLenT, List.length_map]
  cases v with
  | tuple xs =>
    have it : gIsa PyData.isTuple (.tuple xs) = some (.bool true) := rfl
    have lx : gLen (.tuple xs) = some (.int (xs.length : Nat)) := xLenT
    have ne : gNe (.int ((xs.length : Nat) : Int)) (.int ((ls.length : Nat) : Int)) = some (.bool (!decide (xs.length = ls.length))) := by
      rw [xNe]
      congr 3
      rw [decide_eq_decide]; omega
    by_cases hl : xs.length = ls.length
    · have em : ∀ l : List PyData, gNe (.list l) (.list []) = some (.bool (!l.isEmpty)) := fun l => xNeNilL
      by_cases ha : allNum xs = true
      · obtain ⟨ps, pl, p1, p2, p3, p4⟩ := allNum_ps hl ha
        have e0 : (xs.filter fun x => !isNum x 0 1000000) = [] := List.filter_eq_nil_iff.mpr fun x hx => by
          rw [List.all_eq_true.mp ha x hx]; decide
        have e1 : schE ls (.tuple xs) = confD (conf ps) := by
          show (if _ then _ else _) = _
          rw [if_pos ⟨hl, ha⟩, p3]
        have fd : forS ((List.range ps.length).map natD) (L__law_is_schedule_1 (.tuple [T, G, lesP ps]) (hrsP ps)) () = some (rtO (((List.range ps.length).find? fun i => (List.range i).any fun k => hitAt ps k i).map fun _ => .bool false), ()) := by
          rw [forS_map]
          refine forS_find (fun i => (List.range i).any fun k => hitAt ps k i) (fun _ => .bool false) fun i hi => ?_
          have hi' := List.mem_range.mp hi
          have rg : rng1 (natD i) = some ((List.range i).map natD) := rng1_nat (by omega)
          have ie : (((List.range i).filter fun k => hitAt ps k i).map natD).isEmpty = !(List.range i).any fun k => hitAt ps k i := by
            rw [Bool.eq_iff_iff, List.isEmpty_iff, List.map_eq_nil_iff, List.filter_eq_nil_iff, Bool.not_eq_true', List.any_eq_false]
          simp -implicitDefEqProofs only [L__law_is_schedule_1, rg, law_hits hi', em, ie, Bool.not_not, asB_bool, Option.bind_some]
          split <;> rfl
        have rg : rng1 (.int ((xs.length : Nat) : Int)) = some ((List.range ps.length).map natD) := by
          rw [hl, ← pl]; exact rng1_nat (by omega)
        have fin : isN (confD (conf ps)) = ((List.range ps.length).find? fun i => (List.range i).any fun k => hitAt ps k i).isNone := by
          have c1 : isN (confD (conf ps)) = (conf ps).isNone := by
            cases conf ps with
            | none => rfl
            | some q => rfl
          rw [c1, Bool.eq_iff_iff, Option.isNone_iff_eq_none, Option.isNone_iff_eq_none, conf_none, List.find?_eq_none]
          unfold Free
          rw [List.pairwise_iff_getElem]
          constructor
          · intro h i hi
            have hi' := List.mem_range.mp hi
            rw [Bool.not_eq_true, List.any_eq_false]
            intro k hk
            have hk' := List.mem_range.mp hk
            have := h k i (by omega) hi' hk'
            have e := hit_at (ps := ps) (k := k) (i := i) (by omega) hi'
            have e2 : hitAt ps k i = hit ps[k] ps[i] := e
            rw [e2, this]; decide
          · intro h k i hk hi hki
            have := h i (List.mem_range.mpr hi)
            rw [Bool.not_eq_true, List.any_eq_false] at this
            have := this k (List.mem_range.mpr hki)
            have e2 : hitAt ps k i = hit ps[k] ps[i] := hit_at hk hi
            rw [e2, Bool.not_eq_true] at this
            exact this
        rw [e1, fin]
        have q1 : PyData.tuple (ls.map les) = lesP ps := lesP_of p1
        have q2 : PyData.tuple xs = hrsP ps := by rw [p2]; rfl
        simp -implicitDefEqProofs only [f__law_is_schedule, it, xTruB, Bool.not_true, Bool.false_eq_true, if_false, lx, i2, ln, ne, decide_eq_true hl, asB_bool, xSeqT, fil_bad, e0, em, List.isEmpty_nil, rg, Option.bind_some]
        rw [q1, q2, fd]
        cases (List.range ps.length).find? fun i => (List.range i).any fun k => hitAt ps k i <;> rfl
      · have e1 : schE ls (.tuple xs) = hoursE := if_neg fun z => ha z.2
        have e0 : (xs.filter fun x => !isNum x 0 1000000).isEmpty = false := by
          rw [Bool.eq_false_iff]
          intro z
          rw [List.isEmpty_iff, List.filter_eq_nil_iff] at z
          exact ha (List.all_eq_true.mpr fun x hx => by have := z x hx; simpa using this)
        rw [e1]
        simp -implicitDefEqProofs only [f__law_is_schedule, it, xTruB, Bool.not_true, Bool.false_eq_true, if_false, lx, i2, ln, ne, decide_eq_true hl, asB_bool, xSeqT, fil_bad, em, e0, Bool.not_false, if_true, Option.bind_some]
        rfl
    · have e1 : schE ls (.tuple xs) = hoursE := if_neg fun z => hl z.1
      rw [e1]
      simp -implicitDefEqProofs only [f__law_is_schedule, it, xTruB, Bool.not_true, Bool.false_eq_true, if_false, lx, i2, ln, ne, decide_eq_false hl, Bool.not_false, asB_bool, if_true, Option.bind_some]
      rfl
  | _ => rfl

end LK

namespace LK
open PySem L2 PySem.Spec DL
/-! ### reasons judged by program and law, whatever the value -/
def nmB (l : List Nat) (h : Int) (x : PyData) : Bool := match x with
  | .int i => decide (0 ≤ i ∧ i < l.length) && decide (((l.getD i.toNat 0 : Nat) : Int) = h)
  | _ => false
def rsB (R : Ros) (q h : Int) (v : PyData) : Bool := match v with
  | .tuple [.str s] => (s == "rooms") && decide ((h - 1) * q < (R.ls.length : Int))
  | .tuple [.str s, x] => if (s == "teacher") = true then nmB (sideL R false) h x else if (s == "group") = true then nmB (sideL R true) h x else false
  | _ => false
theorem notIn2 (s : Str) : gNotIn (.str s) (.tuple [.str "teacher", .str "group"]) = some (.bool (!((s == "teacher") || (s == "group")))) ∧ gNotIn (.str s) (.list [.str "teacher", .str "group"]) = some (.bool (!((s == "teacher") || (s == "group")))) := by
  have c : (decide (min (PyData.depthAll [.str "teacher", .str "group"]) (PyData.str s).depth ≤ 60) && (PyData.plainAll [.str "teacher", .str "group"] && (PyData.str s).plain)) = true := by
    rw [Bool.and_eq_true, decide_eq_true_eq]
    exact ⟨Nat.le_trans (Nat.min_le_right _ _) (by show (PyData.str s).depth ≤ 60; rw [PyData.depth]; decide), rfl⟩
  have e : ([PyData.str "teacher", .str "group"].any fun y => PyData.eqv y (.str s)) = ((s == "teacher") || (s == "group")) := by
    show (PyData.eqv (.str "teacher") (.str s) || (PyData.eqv (.str "group") (.str s) || false)) = _
    rw [eqv_str, eqv_str, Bool.or_false, Bool.beq_comm (a := ("teacher" : Str)), Bool.beq_comm (a := ("group" : Str))]
  have u1 : ∀ ys : List PyData, gNotIn (.str s) (.tuple ys) = if (decide (min (PyData.depthAll ys) (PyData.str s).depth ≤ 60) && (PyData.plainAll ys && (PyData.str s).plain)) = true then some (.bool (!ys.any fun y => PyData.eqv y (.str s))) else none := fun _ => rfl
  have u2 : ∀ ys : List PyData, gNotIn (.str s) (.list ys) = if (decide (min (PyData.depthAll ys) (PyData.str s).depth ≤ 60) && (PyData.plainAll ys && (PyData.str s).plain)) = true then some (.bool (!ys.any fun y => PyData.eqv y (.str s))) else none := fun _ => rfl
  exact ⟨by rw [u1, if_pos c, e], by rw [u2, if_pos c, e]⟩
theorem isNum_nm {l : List Nat} {h : Int} {x : PyData} (hx : isNum x 0 ((l.length : Int) - 1) = false) : nmB l h x = false := by
  cases x with
  | int i =>
    have e : isNum (.int i) 0 ((l.length : Int) - 1) = decide (0 ≤ i ∧ i ≤ (l.length : Int) - 1) := rfl
    rw [e, decide_eq_false_iff_not] at hx
    show (decide (0 ≤ i ∧ i < (l.length : Int)) && _) = false
    rw [decide_eq_false (fun z : 0 ≤ i ∧ i < (l.length : Int) => hx ⟨z.1, by omega⟩)]; rfl
  | _ => rfl
theorem at_nm {l : List Nat} {i : Int} (h0 : 0 ≤ i) (h1 : i < l.length) : atI (l.map natD) i = some (natD (l.getD i.toNat 0)) := by
  have := at_nat (l := l.map natD) (n := i.toNat) (by rw [List.length_map]; omega)
  rw [List.getElem_map, Int.toNat_of_nonneg h0] at this
  rw [this, List.getD_eq_getElem?_getD, List.getElem?_eq_getElem (by omega)]; rfl
section
variable {R : Ros} {q h : Int}
theorem mul_rs (hh : h.natAbs ≤ 100) : gMul (.int (h - 1)) (.int q) = some (.int ((h - 1) * q)) := xMul (.inl (by omega))
theorem is_rsn_ok (ok : RosOk 8 16 R) (hh : h.natAbs ≤ 100) (v : PyData) : f_is_reason (rosD R) (.int q) (.int h) v = some (.bool (rsB R q h v)) := by
  cases v with
  | tuple xs =>
    have it : gIsa PyData.isTuple (.tuple xs) = some (.bool true) := rfl
    have en : gEq (.tuple xs) (.tuple []) = some (.bool xs.isEmpty) := xEqNilT
    cases xs with
    | nil =>
      simp -implicitDefEqProofs only [f_is_reason, it, xTruB, Bool.not_true, Bool.false_eq_true, if_false, en, List.isEmpty_nil, asB_bool, if_true, Option.bind_some]
      rfl
    | cons a r =>
      have i0 : gIx (.tuple (a :: r)) (.int 0) = some a := at0
      by_cases c : ∃ s, a = .str s
      · obtain ⟨s, rfl⟩ := c
        have ia : gIsa PyData.isStr (.str s) = some (.bool true) := rfl
        have ln : gLen (.tuple (.str s :: r)) = some (.int ((r.length + 1 : Nat) : Int)) := xLenT
        cases r with
        | nil =>
          have et : gEqT (.tuple [.str s]) (.tuple [.str "rooms"]) = some (.bool (s == "rooms")) := rfl
          have sb : DL.gSub (.int h) (.int 1) = some (.int (h - 1)) := rfl
          have lr : gLen (.tuple (R.ls.map les)) = some (.int (R.ls.length : Nat)) := by rw [xLenT, List.length_map]
          have n2 : gNe (.int (([] : List PyData).length + 1 : Nat)) (.int 2) = some (.bool true) := rfl
          have lt : gLt (.int ((h - 1) * q)) (.int (R.ls.length : Nat)) = some (.bool (decide ((h - 1) * q < (R.ls.length : Int)))) := xLt
          show _ = some (PyData.bool ((s == "rooms") && decide ((h - 1) * q < (R.ls.length : Int))))
          cases c2 : (s == "rooms") with
          | true =>
            rw [c2] at et
            simp -implicitDefEqProofs only [f_is_reason, it, xTruB, Bool.not_true, Bool.false_eq_true, if_false, en, List.isEmpty_cons, asB_bool, i0, ia, et, if_true, sb, mul_rs hh, ros_ix, lr, lt, Bool.true_and, Option.bind_some]
          | false =>
            rw [c2] at et
            simp -implicitDefEqProofs only [f_is_reason, it, xTruB, Bool.not_true, Bool.false_eq_true, if_false, en, List.isEmpty_cons, asB_bool, i0, ia, et, ln, n2, if_true, Bool.false_and, Option.bind_some]
        | cons x t =>
          have et : gEqT (.tuple (.str s :: x :: t)) (.tuple [.str "rooms"]) = some (.bool false) := rfl
          cases t with
          | cons y t =>
            have n2 : gNe (.int (((x :: y :: t).length + 1 : Nat) : Int)) (.int 2) = some (.bool true) := by
              rw [xNe, decide_eq_false (by simp only [List.length_cons]; omega)]; rfl
            simp -implicitDefEqProofs only [f_is_reason, it, xTruB, Bool.not_true, Bool.false_eq_true, if_false, en, List.isEmpty_cons, asB_bool, i0, ia, et, ln, n2, if_true, Option.bind_some]
            rfl
          | nil =>
            have n2 : gNe (.int (([x].length + 1 : Nat) : Int)) (.int 2) = some (.bool false) := rfl
            have i1 : gIx (.tuple [.str s, x]) (.int 1) = some x := at1
            have gi : ∀ b : Bool, gInt (.bool b) = some (.int (if b = true then 1 else 0)) := fun b => by cases b <;> rfl
            have fin : ∀ l : List Nat, ((gLen (.tuple (l.map natD))).bind fun v30 => (DL.gSub v30 (.int 1)).bind fun v31 => (f_is_number x (.int 0) v31).bind fun v32 => (ifB v32 (((gIx (.tuple [.str s, x]) (.int 1)).bind fun v33 => (gIx (.tuple (l.map natD)) v33).bind fun v34 => (gEq v34 (.int h)).bind fun v35 => some v35)) ((some (.bool false)))).bind fun v36 => some v36) = some (.bool (nmB l h x)) := fun l => by
              have ll : gLen (.tuple (l.map natD)) = some (.int (l.length : Nat)) := by rw [xLenT, List.length_map]
              have sb : DL.gSub (.int (l.length : Nat)) (.int 1) = some (.int ((l.length : Int) - 1)) := rfl
              cases c3 : isNum x 0 ((l.length : Int) - 1) with
              | false =>
                rw [isNum_nm c3]
                simp -implicitDefEqProofs only [ll, sb, is_number_ok, c3, ifB_bool, Bool.false_eq_true, if_false, Option.bind_some]
              | true =>
                obtain ⟨i, rfl, j0, j1⟩ := isNum_int c3
                have ix : gIx (.tuple (l.map natD)) (.int i) = some (natD (l.getD i.toNat 0)) := at_nm j0 (by omega)
                have e : nmB l h (.int i) = decide (((l.getD i.toNat 0 : Nat) : Int) = h) := by
                  show (decide (0 ≤ i ∧ i < (l.length : Int)) && _) = _
                  rw [decide_eq_true (⟨j0, by omega⟩ : 0 ≤ i ∧ i < (l.length : Int)), Bool.true_and]
                have eq : gEq (natD (l.getD i.toNat 0)) (.int h) = some (.bool (decide (((l.getD i.toNat 0 : Nat) : Int) = h))) := xEq
                simp -implicitDefEqProofs only [ll, sb, is_number_ok, c3, ifB_bool, if_true, i1, ix, eq, e, Option.bind_some]
            show _ = some (PyData.bool (if (s == "teacher") = true then nmB (sideL R false) h x else if (s == "group") = true then nmB (sideL R true) h x else false))
            have ni := (notIn2 s).1
            cases cT : (s == "teacher") with
            | true =>
              have es : s = "teacher" := eq_of_beq cT
              have cG : (s == "group") = false := by rw [es]; decide +kernel
              rw [cT, cG] at ni
              have eg : gEq (.str s) (.str "group") = some (.bool false) := by rw [xEqS, cG]
              have dx : gIx (.tuple [.tuple ((sideL R false).map natD), .tuple ((sideL R true).map natD)]) (.int 0) = some (.tuple ((sideL R false).map natD)) := at0
              simp -implicitDefEqProofs only [f_is_reason, it, xTruB, Bool.not_true, Bool.false_eq_true, if_false, en, List.isEmpty_cons, asB_bool, i0, ia, et, ln, n2, ni, Bool.true_or, degrees_ok ok, eg, gi, dx, i1, if_true, Option.bind_some]
              have := fin (sideL R false)
              simp only [i1, Option.bind_some] at this
              exact this
            | false =>
              cases cG : (s == "group") with
              | true =>
                rw [cT, cG] at ni
                have eg : gEq (.str s) (.str "group") = some (.bool true) := by rw [xEqS, cG]
                have dx : gIx (.tuple [.tuple ((sideL R false).map natD), .tuple ((sideL R true).map natD)]) (.int 1) = some (.tuple ((sideL R true).map natD)) := at1
                simp -implicitDefEqProofs only [f_is_reason, it, xTruB, Bool.not_true, Bool.false_eq_true, if_false, en, List.isEmpty_cons, asB_bool, i0, ia, et, ln, n2, ni, Bool.or_true, degrees_ok ok, eg, gi, dx, i1, if_true, Option.bind_some]
                have := fin (sideL R true)
                simp only [i1, Option.bind_some] at this
                exact this
              | false =>
                rw [cT, cG] at ni
                simp -implicitDefEqProofs only [f_is_reason, it, xTruB, Bool.not_true, Bool.false_eq_true, if_false, en, List.isEmpty_cons, asB_bool, i0, ia, et, ln, n2, ni, Bool.or_false, Bool.not_false, if_true, Option.bind_some]
      · have ia : gIsa PyData.isStr a = some (.bool false) := by
          cases a with
          | str s => exact absurd ⟨s, rfl⟩ c
          | _ => rfl
        have e : rsB R q h (.tuple (a :: r)) = false := by
          unfold rsB
          split
          · rename_i s e; cases e; exact absurd ⟨s, rfl⟩ c
          · rename_i s x e; cases e; exact absurd ⟨s, rfl⟩ c
          · rfl
        rw [e]
        simp -implicitDefEqProofs only [f_is_reason, it, xTruB, Bool.not_true, Bool.false_eq_true, if_false, en, List.isEmpty_cons, asB_bool, i0, ia, Bool.not_false, if_true, Option.bind_some]
  | _ => rfl
def strL (xs : List PyData) : List Str := xs.filterMap fun x => match x with
  | .str s => some s
  | _ => none
theorem strs_fil : ∀ xs : List PyData, strsOf (xs.filter PyData.isStr) = some (strL xs)
  | [] => rfl
  | x :: xs => by
    cases x with
    | str s =>
      show strsOf (.str s :: xs.filter PyData.isStr) = some (s :: strL xs)
      rw [strsOf, strs_fil xs]; rfl
    | none => exact strs_fil xs
    | bool b => exact strs_fil xs
    | int i => exact strs_fil xs
    | list l => exact strs_fil xs
    | tuple l => exact strs_fil xs
    | dict l => exact strs_fil xs
theorem fil_str (xs : List PyData) : filS xs C__law_is_reason_1 = some (xs.filter PyData.isStr) := by
  have := filS_of (l := xs) (m := fun x => x) (f := C__law_is_reason_1) (p := PyData.isStr) (g := fun x => x) fun x _ => by cases x <;> rfl
  rw [List.map_id', List.map_id'] at this
  exact this
theorem cut1 (xs : List PyData) : gSl (.tuple xs) none (some ((1 : Nat) : Int)) = some (.tuple (xs.take 1)) := by
  show some (PyData.tuple (cutD xs none (some ((1 : Nat) : Int)))) = _
  rw [cut_take]
theorem neL_is (xs : List PyData) : gNeL (.list (xs.filter PyData.isStr)) (.list (xs.take 1)) = if (strL xs).length = (xs.take 1).length then neB (strL xs) (xs.take 1) else some (.bool true) := by
  show (strsOf (xs.filter PyData.isStr)).bind _ = _
  rw [strs_fil]; rfl
theorem law_rsn_ok (ok : RosOk 8 16 R) (hh : h.natAbs ≤ 100) (v : PyData) : f__law_is_reason (rosD R) (.int q) (.int h) v = some (.bool (rsB R q h v)) := by
  cases v with
  | tuple xs =>
    have it : gIsa PyData.isTuple (.tuple xs) = some (.bool true) := rfl
    have p1 : prt (.int 1) = some (some ((1 : Nat) : Int)) := rfl
    have gl : gList (.tuple (xs.take 1)) = some (.list (xs.take 1)) := rfl
    have nl := neL_is xs
    have bad : gNeL (.list (xs.filter PyData.isStr)) (.list (xs.take 1)) = some (.bool true) → rsB R q h (.tuple xs) = false → f__law_is_reason (rosD R) (.int q) (.int h) (.tuple xs) = some (.bool (rsB R q h (.tuple xs))) := fun e1 e2 => by
      rw [e2]
      simp -implicitDefEqProofs only [f__law_is_reason, it, xTruB, Bool.not_true, Bool.false_eq_true, if_false, xSeqT, fil_str, p1, cut1, gl, e1, asB_bool, if_true, Option.bind_some]
    cases xs with
    | nil =>
      have e0 : gNeL (.list (([] : List PyData).filter PyData.isStr)) (.list (([] : List PyData).take 1)) = some (.bool false) := rfl
      have et : gEqT (.tuple []) (.tuple [.str "rooms"]) = some (.bool false) := rfl
      have ln : gLen (.tuple []) = some (.int 0) := rfl
      have n2 : gNe (.int 0) (.int 2) = some (.bool true) := rfl
      simp -implicitDefEqProofs only [f__law_is_reason, it, xTruB, Bool.not_true, Bool.false_eq_true, if_false, xSeqT, fil_str, p1, cut1, gl, e0, asB_bool, et, ln, n2, if_true, Option.bind_some]
      rfl
    | cons a r =>
      by_cases c : ∃ s, a = .str s
      · obtain ⟨s, rfl⟩ := c
        have sl : strL (.str s :: r) = s :: strL r := rfl
        rw [sl] at nl
        cases cr : strL r with
        | cons z zs =>
          refine bad ?_ ?_
          · rw [nl, cr, if_neg (by simp)]
          · cases r with
            | nil => cases cr
            | cons x t =>
              cases t with
              | cons y t => rfl
              | nil =>
                cases x with
                | str s' =>
                  show (if (s == "teacher") = true then nmB (sideL R false) h (.str s') else if (s == "group") = true then nmB (sideL R true) h (.str s') else false) = false
                  split
                  · rfl
                  · split <;> rfl
                | _ => cases cr
        | nil =>
          have go : gNeL (.list ((PyData.str s :: r).filter PyData.isStr)) (.list ((PyData.str s :: r).take 1)) = some (.bool false) := by
            rw [nl, cr, if_pos (show [s].length = (List.take 1 (PyData.str s :: r)).length from rfl)]
            show some (PyData.bool (!(s == s))) = _
            rw [beq_self_eq_true]; rfl
          have ln : gLen (.tuple (.str s :: r)) = some (.int ((r.length + 1 : Nat) : Int)) := xLenT
          have i0 : gIx (.tuple (.str s :: r)) (.int 0) = some (.str s) := at0
          cases r with
          | nil =>
            have et : gEqT (.tuple [.str s]) (.tuple [.str "rooms"]) = some (.bool (s == "rooms")) := rfl
            have sb : DL.gSub (.int h) (.int 1) = some (.int (h - 1)) := rfl
            have lr : gLen (.tuple (R.ls.map les)) = some (.int (R.ls.length : Nat)) := by rw [xLenT, List.length_map]
            have n2 : gNe (.int (([] : List PyData).length + 1 : Nat)) (.int 2) = some (.bool true) := rfl
            have lt : gLt (.int ((h - 1) * q)) (.int (R.ls.length : Nat)) = some (.bool (decide ((h - 1) * q < (R.ls.length : Int)))) := xLt
            show _ = some (PyData.bool ((s == "rooms") && decide ((h - 1) * q < (R.ls.length : Int))))
            cases c2 : (s == "rooms") with
            | true =>
              rw [c2] at et
              simp -implicitDefEqProofs only [f__law_is_reason, it, xTruB, Bool.not_true, Bool.false_eq_true, if_false, xSeqT, fil_str, p1, cut1, gl, go, asB_bool, et, if_true, sb, mul_rs hh, ros_ix, lr, lt, Bool.true_and, Option.bind_some]
            | false =>
              rw [c2] at et
              simp -implicitDefEqProofs only [f__law_is_reason, it, xTruB, Bool.not_true, Bool.false_eq_true, if_false, xSeqT, fil_str, p1, cut1, gl, go, asB_bool, et, ln, n2, if_true, Bool.false_and, Option.bind_some]
          | cons x t =>
            have et : gEqT (.tuple (.str s :: x :: t)) (.tuple [.str "rooms"]) = some (.bool false) := rfl
            cases t with
            | cons y t =>
              have n2 : gNe (.int (((x :: y :: t).length + 1 : Nat) : Int)) (.int 2) = some (.bool true) := by
                rw [xNe, decide_eq_false (by simp only [List.length_cons]; omega)]; rfl
              simp -implicitDefEqProofs only [f__law_is_reason, it, xTruB, Bool.not_true, Bool.false_eq_true, if_false, xSeqT, fil_str, p1, cut1, gl, go, asB_bool, et, ln, n2, if_true, Option.bind_some]
              rfl
            | nil =>
              have n2 : gNe (.int (([x].length + 1 : Nat) : Int)) (.int 2) = some (.bool false) := rfl
              have i1 : gIx (.tuple [.str s, x]) (.int 1) = some x := at1
              show _ = some (PyData.bool (if (s == "teacher") = true then nmB (sideL R false) h x else if (s == "group") = true then nmB (sideL R true) h x else false))
              have ni := (notIn2 s).2
              have fin : ∀ (i : Int) (l : List Nat), ((gLe (.int 0) (.int i)).bind fun v36 => (ifB v36 (((gLen (.list (l.map natD))).bind fun v37 => (gLt (.int i) v37).bind fun v38 => some v38)) ((some (.bool false)))).bind fun v39 => (ifB v39 (((gIx (.list (l.map natD)) (.int i)).bind fun v41 => (gEq v41 (.int h)).bind fun v42 => some v42)) ((some (.bool false)))).bind fun v43 => some v43) = some (.bool (nmB l h (.int i))) := fun i l => by
                have ll : gLen (.list (l.map natD)) = some (.int (l.length : Nat)) := by rw [xLenL, List.length_map]
                have l0 : gLe (.int 0) (.int i) = some (.bool (decide (0 ≤ i))) := xLe
                have l1 : gLt (.int i) (.int (l.length : Nat)) = some (.bool (decide (i < (l.length : Int)))) := xLt
                have e : nmB l h (.int i) = (decide (0 ≤ i ∧ i < (l.length : Int)) && decide (((l.getD i.toNat 0 : Nat) : Int) = h)) := rfl
                rw [e]
                by_cases j0 : 0 ≤ i
                · by_cases j1 : i < (l.length : Int)
                  · have ix : gIx (.list (l.map natD)) (.int i) = some (natD (l.getD i.toNat 0)) := at_nm j0 j1
                    have eq : gEq (natD (l.getD i.toNat 0)) (.int h) = some (.bool (decide (((l.getD i.toNat 0 : Nat) : Int) = h))) := xEq
                    simp -implicitDefEqProofs only [l0, decide_eq_true j0, ifB_bool, if_true, ll, l1, decide_eq_true j1, ix, eq, decide_eq_true (And.intro j0 j1), Bool.true_and, Option.bind_some]
                  · simp -implicitDefEqProofs only [l0, decide_eq_true j0, ifB_bool, if_true, ll, l1, decide_eq_false j1, Bool.false_eq_true, if_false, decide_eq_false (fun z : 0 ≤ i ∧ i < (l.length : Int) => j1 z.2), Bool.false_and, Option.bind_some]
                · simp -implicitDefEqProofs only [l0, decide_eq_false j0, ifB_bool, Bool.false_eq_true, if_false, decide_eq_false (fun z : 0 ≤ i ∧ i < (l.length : Int) => j0 z.1), Bool.false_and, Option.bind_some]
              by_cases ci : ∃ i, x = .int i
              · obtain ⟨i, rfl⟩ := ci
                have wh : f__law_whole (.int i) = some (.bool true) := rfl
                cases cT : (s == "teacher") with
                | true =>
                  have es : s = "teacher" := eq_of_beq cT
                  have cG : (s == "group") = false := by rw [es]; decide +kernel
                  rw [cT, cG] at ni
                  have dI : gIndex (.list [.str "teacher", .str "group"]) (.str s) = some (.int 0) := by rw [es]; rfl
                  have dx : gIx (.list [.list ((sideL R false).map natD), .list ((sideL R true).map natD)]) (.int 0) = some (.list ((sideL R false).map natD)) := at0
                  simp -implicitDefEqProofs only [f__law_is_reason, it, xTruB, Bool.not_true, Bool.false_eq_true, if_false, xSeqT, fil_str, p1, cut1, gl, go, asB_bool, et, ln, n2, i0, ni, Bool.true_or, i1, wh, law_degrees_ok ok, dI, dx, if_true, Option.bind_some]
                  exact fin i (sideL R false)
                | false =>
                  cases cG : (s == "group") with
                  | true =>
                    have es : s = "group" := eq_of_beq cG
                    rw [cT, cG] at ni
                    have dI : gIndex (.list [.str "teacher", .str "group"]) (.str s) = some (.int 1) := by rw [es]; rfl
                    have dx : gIx (.list [.list ((sideL R false).map natD), .list ((sideL R true).map natD)]) (.int 1) = some (.list ((sideL R true).map natD)) := at1
                    simp -implicitDefEqProofs only [f__law_is_reason, it, xTruB, Bool.not_true, Bool.false_eq_true, if_false, xSeqT, fil_str, p1, cut1, gl, go, asB_bool, et, ln, n2, i0, ni, Bool.or_true, i1, wh, law_degrees_ok ok, dI, dx, if_true, Option.bind_some]
                    exact fin i (sideL R true)
                  | false =>
                    rw [cT, cG] at ni
                    simp -implicitDefEqProofs only [f__law_is_reason, it, xTruB, Bool.not_true, Bool.false_eq_true, if_false, xSeqT, fil_str, p1, cut1, gl, go, asB_bool, et, ln, n2, i0, ni, Bool.or_false, Bool.not_false, if_true, Option.bind_some]
              · have wh : f__law_whole x = some (.bool false) := by
                  cases x with
                  | int i => exact absurd ⟨i, rfl⟩ ci
                  | _ => rfl
                have nx : ∀ l : List Nat, nmB l h x = false := fun l => by
                  cases x with
                  | int i => exact absurd ⟨i, rfl⟩ ci
                  | _ => rfl
                rw [nx, nx]
                have z0 : (if (s == "teacher") = true then false else if (s == "group") = true then false else false) = false := by split; rfl; split <;> rfl
                rw [z0]
                cases cc : ((s == "teacher") || (s == "group")) with
                | true =>
                  rw [cc] at ni
                  simp -implicitDefEqProofs only [f__law_is_reason, it, xTruB, Bool.not_true, Bool.false_eq_true, if_false, xSeqT, fil_str, p1, cut1, gl, go, asB_bool, et, ln, n2, i0, ni, i1, wh, Bool.not_false, if_true, Option.bind_some]
                | false =>
                  rw [cc] at ni
                  simp -implicitDefEqProofs only [f__law_is_reason, it, xTruB, Bool.not_true, Bool.false_eq_true, if_false, xSeqT, fil_str, p1, cut1, gl, go, asB_bool, et, ln, n2, i0, ni, Bool.not_false, if_true, Option.bind_some]
      · refine bad ?_ ?_
        · have sl : strL (a :: r) = strL r := by
            cases a with
            | str s => exact absurd ⟨s, rfl⟩ c
            | _ => rfl
          rw [nl, sl]
          split
          · rename_i hl
            match strL r, hl with
            | [z], _ =>
              show some (PyData.bool (!isS a z)) = _
              have : isS a z = false := by
                cases a with
                | str s => exact absurd ⟨s, rfl⟩ c
                | _ => rfl
              rw [this]; rfl
          · rfl
        · unfold rsB
          split
          · rename_i s e; cases e; exact absurd ⟨s, rfl⟩ c
          · rename_i s x e; cases e; exact absurd ⟨s, rfl⟩ c
          · rfl
  | _ => rfl
end

end LK

namespace LK
open PySem L2 PySem.Spec DL
/-! ### weights and lengths -/
theorem wt_pos : ∀ d : PyData, 20 ≤ wt d
  | .none => by simp [wt]
  | .bool _ => by simp [wt]
  | .int _ => by simp [wt]
  | .str _ => by simp [wt]
  | .list _ => by simp [wt]
  | .tuple _ => by simp [wt]
  | .dict _ => by simp [wt]
theorem len22 {n : Nat} : ∀ {xs : List PyData} {s : Nat}, VlL n s xs → 22 * xs.length ≤ s
  | [], s, _ => Nat.zero_le _
  | x :: xs, s, h => by
    obtain ⟨s1, s2, h1, h2, h3⟩ := h.split
    have := len22 (n := n) (s := s2) h2
    have := h1.wt
    have := wt_pos x
    rw [List.length_cons]; omega
theorem xSlT {xs : List PyData} {lo hi : Option Int} : gSl (.tuple xs) lo hi = some (.tuple (cutD xs lo hi)) := rfl
theorem cut_vl {n s : Nat} {xs : List PyData} {lo hi : Option Int} (h : VlL n s xs) : VlL n s (cutD xs lo hi) := by
  unfold cutD
  exact (h.drop _).take _
theorem cut_len {xs : List PyData} {lo hi : Option Int} : (cutD xs lo hi).length ≤ xs.length := by
  unfold cutD
  rw [List.length_take, List.length_drop]; omega
end LK

namespace LK
open PySem L2 PySem.Spec DL
theorem xSlT0 {xs : List PyData} {k : Nat} : gSl (.tuple xs) none (some (k : Nat)) = some (.tuple (xs.take k)) := by show some (PyData.tuple (cutD xs none (some (k : Nat)))) = _; rw [cut_take]
theorem xSlT1 {xs : List PyData} {k : Nat} : gSl (.tuple xs) (some (k : Nat)) none = some (.tuple (xs.drop k)) := by show some (PyData.tuple (cutD xs (some (k : Nat)) none)) = _; rw [cut_drop]

end LK

namespace LK
open PySem L2 PySem.Spec DL
/-! ### values changed at some places -/
theorem gIx_at {xs : List PyData} {i : Int} (h0 : 0 ≤ i) (h1 : i < xs.length) : ∃ x, x ∈ xs ∧ gIx (.list xs) (.int i) = some x := by
  obtain ⟨x, hx, e⟩ := at_mem h0 h1
  exact ⟨x, hx, by rw [xIxL]; exact e⟩
def odds51 : List PyData := [.none, .bool true, .bool false, .int 0, .int 1, .int (-1), .int 2, .int 1000001, .int (10 ^ 29), .str "", .str "none", .str "rooms", .str "teacher", .str "group", .tuple [], .tuple [.int 0],
  .list [], .dict [], .list [.int 0], .dict [(.str "a", .int 1)], .tuple [.bool true], .tuple [.tuple [], .tuple []], .tuple [.tuple [], .tuple [.str "none"]], .tuple [.tuple []], .tuple [.str "rooms"]]
theorem odds51_vl : ∀ x ∈ odds51, Vl 3 6300 x := by
  have h : (odds51.all fun x => x.showable && decide (x.depth ≤ 3) && decide (wt x ≤ 6300)) = true := by decide +kernel
  intro x hx
  have := List.all_eq_true.mp h x hx
  simp only [Bool.and_eq_true, decide_eq_true_eq] at this
  exact ⟨this.1.1, this.1.2, this.2⟩
theorem odd51_ok {k : Nat} {d : PyData} (hd : Deck k d) (hk : k ≤ 1000000) : ∃ x d', f__law_odd d = some (x, d') ∧ Deck (k + 1) d' ∧ Vl 3 6300 x := by
  obtain ⟨r, d', h1, h2, h3, h4⟩ := next_ok hd (by omega) 25 (by omega) (by omega)
  obtain ⟨x, hx, e⟩ := at_mem (l := odds51) h3 h4
  refine ⟨x, d', ?_, h2, odds51_vl x hx⟩
  have e' : gIx (.list odds51) (.int r) = some x := e
  have p2 : gPow (.int 10) (.int 29) = some (.int (10 ^ 29)) := xPow (by decide) (by decide) (by decide)
  have p6 : gPow (.int 10) (.int 6) = some (.int 1000000) := xPow (by decide) (by decide) (by decide)
  have a1 : gAdd (.int 1000000) (.int 1) = some (.int 1000001) := rfl
  have ng : gNeg (.int 1) = some (.int (-1)) := rfl
  have ad : ∀ a b : List PyData, a.length + b.length ≤ 100 → gAdd (.list a) (.list b) = some (.list (a ++ b)) := fun a b h => xAddL (by omega)
  simp -implicitDefEqProofs only [f__law_odd, ng, p6, a1, p2, Option.bind_some]
  rw [ad _ _ (by simp)]
  simp -implicitDefEqProofs only [h1, Option.bind_some]
  show (gIx (.list odds51) (.int r)).bind _ = _
  rw [e']; rfl
theorem changed51 : ∀ (m n k : Nat) (d v : PyData) (s : Nat), n < m → Vl n s v → s ≤ 117000 → Deck k d → k + 4 * m ≤ 900000 → Ok (f__law_changed m d v) fun p => Deck (k + 4 * (n + 1)) p.2 ∧ Vl (n + 4) ((3 + n) * s + 6400 + 40 * n) p.1
  | 0, _, _, _, _, _, h, _, _, _, _ => by omega
  | m + 1, n, k, d, v, s, he, hv, hs, hd, hk => by
    have big : 3 * s + 6400 ≤ (3 + n) * s + 6400 + 40 * n := by
      have := Nat.mul_le_mul_right s (show 3 ≤ 3 + n by omega)
      omega
    have odd : ∀ {k' : Nat} {d' : PyData}, Deck k' d' → k' + 1 ≤ k + 4 * (n + 1) → Ok ((f__law_odd d').bind fun v50 => some (v50.1, v50.2)) fun p => Deck (k + 4 * (n + 1)) p.2 ∧ Vl (n + 4) ((3 + n) * s + 6400 + 40 * n) p.1 := fun hd' hk' => by
      obtain ⟨y, d3, h3, k3, hy⟩ := odd51_ok hd' (by omega)
      refine .bnd h3 (.ret ⟨k3.mono hk', hy.mono (by omega) (by omega)⟩)
    cases v with
    | tuple xs =>
      have hx := hv.tup0
      have hlen := len22 hx
      have n1 : 1 ≤ n := by have := hv.dp; rw [depth_tuple] at this; omega
      have it : gIsa PyData.isTuple (.tuple xs) = some (.bool true) := rfl
      have ii : gIsa PyData.isInt (.tuple xs) = some (.bool false) := rfl
      have ne : gNe (.tuple xs) (.tuple []) = some (.bool (!xs.isEmpty)) := xNeNilT
      unfold f__law_changed
      simp only [it, xTruB, if_true, ne, asB_bool, Option.bind_some]
      refine .post (fun c => (c.1 = true → xs ≠ []) ∧ Deck (k + 1) c.2) (.post (fun c => (c.1 = true → xs ≠ []) ∧ Deck (k + 1) c.2) (.ite (fun hne => ?_) fun _ => .ret ⟨fun h => by simp at h, hd.mono (by omega)⟩) fun c hc => .ret hc) ?_
      · obtain ⟨r, d1, h1, k1, _⟩ := next_ok hd (by omega) 5 (by omega) (by omega)
        refine .bnd h1 ?_
        simp only [xGt, asB_bool, Option.bind_some]
        exact .ret ⟨fun _ z => by rw [z] at hne; simp at hne, k1⟩
      rintro ⟨b, d1⟩ ⟨hb, k1⟩
      refine .ite (fun h => ?_) fun h => ?_
      · have hne := hb h
        have hp := List.length_pos_iff.mpr hne
        obtain ⟨r, d2, h2, k2, r0, r1⟩ := next_ok k1 (by omega) (xs.length : Int) (by omega) (by omega)
        obtain ⟨j, rfl⟩ := Int.eq_ofNat_of_zero_le r0
        have hj : j < xs.length := by omega
        have ln : gLen (.tuple xs) = some (.int (xs.length : Nat)) := xLenT
        rw [ln, Option.bind_some]
        refine .bnd h2 ?_
        simp only [xPrt, Option.bind_some, xSlT0, xIxT, at_nat hj]
        have hx' : VlL (n - 1) s xs := by
          obtain ⟨n', rfl⟩ : ∃ n', n = n' + 1 := ⟨n - 1, by omega⟩
          exact hv.tup
        refine .post _ (changed51 m (n - 1) (k + 2) d2 xs[j] s (by omega) (hx'.mem (List.getElem_mem hj)) hs k2 (by omega)) ?_
        rintro ⟨y, d3⟩ ⟨k3, hy⟩
        simp only [xAdd, xPrt, Option.bind_some]
        rw [xAddT (by simp; omega), show ((j : Nat) : Int) + 1 = ((j + 1 : Nat) : Int) by omega, xSlT1]
        simp only [Option.bind_some]
        rw [xAddT (by simp; omega)]
        refine .ret ⟨k3.mono (by omega), ?_⟩
        show Vl (n + 4) _ (.tuple ((xs.take j ++ [y]) ++ xs.drop (j + 1)))
        rw [List.append_assoc]
        refine ((VlL.slice j (hx'.mono (n' := n - 1 + 4) (by omega) (Nat.le_refl _)) hj hy).tuple).mono (by omega) ?_
        obtain ⟨e', rfl⟩ : ∃ e', n = e' + 1 := ⟨n - 1, by omega⟩
        have : (3 + (e' + 1)) * s = (3 + e') * s + s := by rw [← Nat.add_assoc, Nat.succ_mul]
        simp only [Nat.add_sub_cancel]
        omega
      · obtain ⟨w, d2, h2, k2, w0, w1⟩ := next_ok k1 (by omega) 7 (by omega) (by omega)
        refine .bnd h2 ?_
        have lt : gLt (.int w) (.int 4) = some (.bool (decide (w < 4))) := xLt
        have ng : gNeg (.int 1) = some (.int (-1)) := rfl
        have p1 : prt (.int (-1)) = some (some (-1)) := rfl
        have gl : gList (.tuple xs) = some (.list xs) := rfl
        simp only [it, xTruB, if_true, lt, asB_bool, Option.bind_some]
        refine .ite (fun h4 => ?_) fun _ => ?_
        · have l1 := cut_len (xs := xs) (lo := some (-1)) (hi := none)
          simp only [ng, p1, xSlT, Option.bind_some]
          rw [xAddT (by omega)]
          simp only [gl, xBackT, Option.bind_some]
          obtain ⟨z, hz, e1⟩ := gIx_at (xs := [.tuple (cutD xs none (some (-1))), .tuple (xs ++ cutD xs (some (-1)) none), .list xs, .tuple xs.reverse]) w0 (by show w < 4; exact of_decide_eq_true h4)
          refine .bnd e1 (.ret ⟨k2.mono (by omega), ?_⟩)
          refine Vl.mono (n := n + 4) (s := 3 * s + 6400) ?_ (Nat.le_refl _) big
          simp only [List.mem_cons, List.not_mem_nil, or_false] at hz
          rcases hz with rfl | rfl | rfl | rfl
          · exact (cut_vl hx).tuple.mono (by omega) (by omega)
          · exact (hx.append (cut_vl hx)).tuple.mono (by omega) (by omega)
          · exact hx.list.mono (by omega) (by omega)
          · exact hx.reverse.tuple.mono (by omega) (by omega)
        · simp only [ii, xTruB, Bool.false_eq_true, if_false, Option.bind_some]
          exact odd k2 (by omega)
    | int i =>
      have hi := Vl.log hv
      have hw := hv.wt
      have it : gIsa PyData.isTuple (.int i) = some (.bool false) := rfl
      have ii : gIsa PyData.isInt (.int i) = some (.bool true) := rfl
      have ib : gIsa PyData.isBool (.int i) = some (.bool false) := rfl
      obtain ⟨w, d2, h2, k2, w0, w1⟩ := next_ok hd (by omega) 7 (by omega) (by omega)
      have lt : gLt (.int w) (.int 4) = some (.bool (decide (w < 4))) := xLt
      unfold f__law_changed
      simp only [it, ii, ib, xTruB, Bool.false_eq_true, if_false, if_true, Bool.not_false, h2, lt, asB_bool, Option.bind_some]
      refine .ite (fun h4 => ?_) fun _ => ?_
      · have sb : DL.gSub (.int i) (.int 1) = some (.int (i - 1)) := rfl
        simp only [xAdd, sb, xEq, xStr hi, Option.bind_some]
        obtain ⟨z, hz, e1⟩ := gIx_at (xs := [.int (i + 1), .int (i - 1), .bool (decide (i = 1)), .str (Str.ofString (toString i))]) w0 (by show w < 4; exact of_decide_eq_true h4)
        refine .bnd e1 (.ret ⟨k2.mono (by omega), ?_⟩)
        refine Vl.mono (n := n + 4) (s := 3 * s + 6400) ?_ (Nat.le_refl _) big
        simp only [List.mem_cons, List.not_mem_nil, or_false] at hz
        rcases hz with rfl | rfl | rfl | rfl
        · exact (vl_int_of (wt_int_add hw (by decide)) (by omega)).mono (Nat.le_refl _) (by omega)
        · exact (vl_int_of (wt_int_add (c := -1) hw (by decide)) (by omega)).mono (Nat.le_refl _) (by omega)
        · exact (vl_bool (s := 0)).mono (Nat.le_refl _) (by omega)
        · exact (vl_textI hw).mono (Nat.le_refl _) (by omega)
      · exact odd k2 (by omega)
    | bool b =>
      obtain ⟨w, d2, h2, k2, w0, w1⟩ := next_ok hd (by omega) 7 (by omega) (by omega)
      have it : gIsa PyData.isTuple (.bool b) = some (.bool false) := rfl
      have ii : gIsa PyData.isInt (.bool b) = some (.bool true) := rfl
      have ib : gIsa PyData.isBool (.bool b) = some (.bool true) := rfl
      unfold f__law_changed
      simp only [it, ii, ib, xTruB, Bool.false_eq_true, if_false, if_true, Bool.not_true, h2, Option.bind_some]
      exact odd k2 (by omega)
    | none =>
      obtain ⟨w, d2, h2, k2, w0, w1⟩ := next_ok hd (by omega) 7 (by omega) (by omega)
      have it : gIsa PyData.isTuple .none = some (.bool false) := rfl
      have ii : gIsa PyData.isInt .none = some (.bool false) := rfl
      unfold f__law_changed
      simp only [it, ii, xTruB, Bool.false_eq_true, if_false, h2, Option.bind_some]
      exact odd k2 (by omega)
    | str x =>
      obtain ⟨w, d2, h2, k2, w0, w1⟩ := next_ok hd (by omega) 7 (by omega) (by omega)
      have it : gIsa PyData.isTuple (.str x) = some (.bool false) := rfl
      have ii : gIsa PyData.isInt (.str x) = some (.bool false) := rfl
      unfold f__law_changed
      simp only [it, ii, xTruB, Bool.false_eq_true, if_false, h2, Option.bind_some]
      exact odd k2 (by omega)
    | list x =>
      obtain ⟨w, d2, h2, k2, w0, w1⟩ := next_ok hd (by omega) 7 (by omega) (by omega)
      have it : gIsa PyData.isTuple (.list x) = some (.bool false) := rfl
      have ii : gIsa PyData.isInt (.list x) = some (.bool false) := rfl
      unfold f__law_changed
      simp only [it, ii, xTruB, Bool.false_eq_true, if_false, h2, Option.bind_some]
      exact odd k2 (by omega)
    | dict x =>
      obtain ⟨w, d2, h2, k2, w0, w1⟩ := next_ok hd (by omega) 7 (by omega) (by omega)
      have it : gIsa PyData.isTuple (.dict x) = some (.bool false) := rfl
      have ii : gIsa PyData.isInt (.dict x) = some (.bool false) := rfl
      unfold f__law_changed
      simp only [it, ii, xTruB, Bool.false_eq_true, if_false, h2, Option.bind_some]
      exact odd k2 (by omega)

end LK

namespace LK
open PySem L2 PySem.Spec DL
/-! ### the law -/
def cntU (us : List Int) : List Nat := (sortSet us).map fun u => us.count u
theorem sort_ne {us : List Int} (h : us ≠ []) : cntU us ≠ [] := fun e => by
  have e : sortSet us = [] := List.map_eq_nil_iff.mp e
  obtain ⟨a, t, rfl⟩ : ∃ a t, us = a :: t := by
    cases us with
    | nil => exact absurd rfl h
    | cons a t => exact ⟨a, t, rfl⟩
  have : a ∈ sortSet (a :: t) := sortSet_mem.mpr (List.mem_cons_self ..)
  rw [e] at this
  cases this
/-- a pair whose first part is a schedule -/
structure Pr51 (R : Ros) (v : PyData) (us : List Int) (re : PyData) : Prop where
  is : v = .tuple [.tuple (us.map .int), re]
  ok : isN (schE R.ls (.tuple (us.map .int))) = true
  len : us.length = R.ls.length
theorem pr_or (R : Ros) (v : PyData) : (∃ us re, Pr51 R v us re) ∨ ∀ sc re, v = .tuple [sc, re] → isN (schE R.ls sc) = false := by
  by_cases c : ∃ sc re, v = .tuple [sc, re] ∧ isN (schE R.ls sc) = true
  · obtain ⟨sc, re, rfl, h⟩ := c
    cases sc with
    | tuple xs =>
      by_cases hc : xs.length = R.ls.length ∧ allNum xs = true
      · obtain ⟨ps, pl, p1, p2, p3, p4⟩ := allNum_ps hc.1 hc.2
        have e : xs = (ps.map (·.2)).map .int := by rw [p2, List.map_map]; rfl
        exact .inl ⟨ps.map (·.2), re, by rw [← e], by rw [← e]; exact h, by rw [List.length_map]; exact pl⟩
      · have : schE R.ls (.tuple xs) = hoursE := if_neg hc
        rw [this] at h
        cases h
    | _ => cases h
  · exact .inr fun sc re e => by
      rw [Bool.eq_false_iff]
      exact fun z => c ⟨sc, re, e, z⟩
theorem two_or (v : PyData) : (∃ a b, v = .tuple [a, b]) ∨ (gIsa PyData.isTuple v = some (.bool false)) ∨ ∃ xs, v = .tuple xs ∧ gNe (.int ((xs.length : Nat) : Int)) (.int 2) = some (.bool true) := by
  cases v with
  | tuple xs =>
    match xs with
    | [a, b] => exact .inl ⟨a, b, rfl⟩
    | [] => exact .inr (.inr ⟨[], rfl, rfl⟩)
    | [a] => exact .inr (.inr ⟨[a], rfl, rfl⟩)
    | a :: b :: c :: r => exact .inr (.inr ⟨_, rfl, by rw [xNe, decide_eq_false (by simp only [List.length_cons]; omega)]; rfl⟩)
  | _ => exact .inr (.inl rfl)
section
variable {R : Ros} {q : Int} {v : PyData}
theorem prog_bad (ok : RosOk 8 16 R) (h : ∀ sc re, v = .tuple [sc, re] → isN (schE R.ls sc) = false) : f_rooms_holds (rosD R) (.int q) v = some (.bool false) := by
  have hn := ok.len
  rcases two_or v with ⟨a, b, rfl⟩ | e | ⟨xs, rfl, e⟩
  · have it : gIsa PyData.isTuple (.tuple [a, b]) = some (.bool true) := rfl
    have ln : gLen (.tuple [a, b]) = some (.int 2) := rfl
    have n2 : gNe (.int 2) (.int 2) = some (.bool false) := rfl
    have i0 : gIx (.tuple [a, b]) (.int 0) = some a := at0
    have sa : f_is_schedule (rosD R) a = some (.bool false) := by
      have := is_any (T := .int R.T) (G := .int R.G) R.ls (by omega) a
      rw [h a b rfl] at this
      exact this
    simp -implicitDefEqProofs only [f_rooms_holds, it, xTruB, Bool.not_true, Bool.false_eq_true, if_false, ln, n2, asB_bool, i0, sa, Bool.not_false, if_true, Option.bind_some]
  · simp -implicitDefEqProofs only [f_rooms_holds, e, xTruB, Bool.not_false, if_true, Option.bind_some]
  · have it : gIsa PyData.isTuple (.tuple xs) = some (.bool true) := rfl
    have ln : gLen (.tuple xs) = some (.int (xs.length : Nat)) := xLenT
    simp -implicitDefEqProofs only [f_rooms_holds, it, xTruB, Bool.not_true, Bool.false_eq_true, if_false, ln, e, asB_bool, if_true, Option.bind_some]
theorem ros_emp : gEq (.tuple (R.ls.map les)) (.tuple []) = some (.bool (decide (R.ls = []))) := by
  rw [xEqNilT]
  cases R.ls <;> rfl
theorem law_bad51 (ok : RosOk 8 16 R) (hE : R.ls ≠ []) (h : ∀ sc re, v = .tuple [sc, re] → isN (schE R.ls sc) = false) : f__law_due (rosD R) (.int q) v = some (.bool false) := by
  have hn := ok.len
  have em := ros_emp (R := R)
  rw [decide_eq_false hE] at em
  rcases two_or v with ⟨a, b, rfl⟩ | e | ⟨xs, rfl, e⟩
  · have it : gIsa PyData.isTuple (.tuple [a, b]) = some (.bool true) := rfl
    have ln : gLen (.tuple [a, b]) = some (.int 2) := rfl
    have n2 : gNe (.int 2) (.int 2) = some (.bool false) := rfl
    have i0 : gIx (.tuple [a, b]) (.int 0) = some a := at0
    have sa : f__law_is_schedule (rosD R) a = some (.bool false) := by
      have := law_sch_any (T := .int R.T) (G := .int R.G) R.ls (by omega) a
      rw [h a b rfl] at this
      exact this
    simp -implicitDefEqProofs only [f__law_due, ros_ix, em, it, xTruB, Bool.not_true, Bool.false_eq_true, if_false, ln, n2, asB_bool, i0, sa, Bool.not_false, if_true, Option.bind_some]
  · simp -implicitDefEqProofs only [f__law_due, ros_ix, em, asB_bool, Bool.false_eq_true, if_false, e, xTruB, Bool.not_false, if_true, Option.bind_some]
  · have it : gIsa PyData.isTuple (.tuple xs) = some (.bool true) := rfl
    have ln : gLen (.tuple xs) = some (.int (xs.length : Nat)) := xLenT
    simp -implicitDefEqProofs only [f__law_due, ros_ix, em, it, xTruB, Bool.not_true, Bool.false_eq_true, if_false, ln, e, asB_bool, if_true, Option.bind_some]
theorem none_vl : Vl 9 6300 noneV := by
  have h : (noneV.showable && decide (noneV.depth ≤ 9) && decide (wt noneV ≤ 6300)) = true := by decide +kernel
  simp only [Bool.and_eq_true, decide_eq_true_eq] at h
  exact ⟨h.1.1, h.1.2, h.2⟩
theorem law_emp (hE : R.ls = []) (hv : Vl 58 16000000 v) : ∃ b, f__law_due (rosD R) (.int q) v = some (.bool b) ∧ (b = true ↔ v = noneV) := by
  have em := ros_emp (R := R)
  rw [decide_eq_true hE] at em
  have g1 := gRepr_ok hv (by decide) (by decide)
  have g2 : gRepr (.tuple [.tuple [], .tuple [.str "none"]]) = some (.str noneV.shown) := gRepr_ok none_vl (by decide) (by decide)
  have eq : gEq (.str v.shown) (.str noneV.shown) = some (.bool (v.shown == noneV.shown)) := xEqS
  refine ⟨v.shown == noneV.shown, by simp -implicitDefEqProofs only [f__law_due, ros_ix, em, asB_bool, if_true, g1, g2, eq, Option.bind_some], ?_⟩
  constructor
  · intro h
    refine sh_only ?_
    unfold shL
    rw [eq_of_beq h]; exact sh_none
  · rintro rfl
    exact beq_self_eq_true _
theorem both_ok (ok : RosOk 8 16 R) (hv : Vl 58 16000000 v) : ∃ b, f_rooms_holds (rosD R) (.int q) v = some (.bool b) ∧ f__law_due (rosD R) (.int q) v = some (.bool b) := by
  have hn := ok.len
  rcases pr_or R v with ⟨us, re, P⟩ | h
  · obtain ⟨rfl, hs, hl⟩ := P
    have it : gIsa PyData.isTuple (.tuple [.tuple (us.map .int), re]) = some (.bool true) := rfl
    have ln : gLen (.tuple [.tuple (us.map .int), re]) = some (.int 2) := rfl
    have n2 : gNe (.int 2) (.int 2) = some (.bool false) := rfl
    have i0 : gIx (.tuple [.tuple (us.map .int), re]) (.int 0) = some (.tuple (us.map .int)) := at0
    have i1 : gIx (.tuple [.tuple (us.map .int), re]) (.int 1) = some re := at1
    have un : un2 (.tuple [.tuple (us.map .int), re]) = some (.tuple (us.map .int), re) := rfl
    have sa : f_is_schedule (rosD R) (.tuple (us.map .int)) = some (.bool true) := by
      have := is_any (T := .int R.T) (G := .int R.G) R.ls (by omega) (.tuple (us.map .int))
      rw [hs] at this
      exact this
    have sl : f__law_is_schedule (rosD R) (.tuple (us.map .int)) = some (.bool true) := by
      have := law_sch_any (T := .int R.T) (G := .int R.G) R.ls (by omega) (.tuple (us.map .int))
      rw [hs] at this
      exact this
    have eu : gEq (.tuple (us.map .int)) (.tuple []) = some (.bool (decide (us = []))) := by
      rw [xEqNilT]
      cases us <;> rfl
    by_cases c : R.ls = []
    · have u0 : us = [] := List.eq_nil_of_length_eq_zero (by rw [hl, c]; rfl)
      subst u0
      obtain ⟨b, e1, e2⟩ := law_emp (q := q) c hv
      have et : gEqT re (.tuple [.str "none"]) = some (.bool (oneT re "none")) := rfl
      have eb : oneT re "none" = b := by
        rw [Bool.eq_iff_iff, e2]
        constructor
        · intro z
          unfold oneT at z
          split at z
          · rename_i d
            cases d with
            | str s =>
              have z : (s == ("none" : Str)) = true := z
              rw [eq_of_beq z]; rfl
            | _ => cases z
          · cases z
        · intro z
          have : re = .tuple [.str "none"] := by
            unfold noneV at z
            injection z with z
            injection z with _ z
            injection z with z _
          rw [this]; rfl
      rw [← eb] at e1
      refine ⟨_, ?_, e1⟩
      simp -implicitDefEqProofs only [f_rooms_holds, it, xTruB, Bool.not_true, Bool.false_eq_true, if_false, ln, n2, asB_bool, i0, sa, un, eu, decide_true, if_true, et, Option.bind_some]
    · have em := ros_emp (R := R)
      rw [decide_eq_false c] at em
      have une : us ≠ [] := fun z => c (List.eq_nil_of_length_eq_zero (by rw [← hl, z]; rfl))
      rw [decide_eq_false une] at eu
      have ss : gSortSet (.tuple (us.map .int)) = some (.list ((sortSet us).map .int)) := xSortSetT (l := us) (by omega)
      have m1 : mapS ((sortSet us).map .int) (C_rooms_holds_1 (.tuple (us.map .int))) = some ((cntU us).map natD) := by
        unfold cntU
        rw [List.map_map]
        exact mapS_of fun u _ => by simp only [C_rooms_holds_1, xCntT, Option.bind_some]; rfl
      have nu : f__law_numbers (.tuple (us.map .int)) = some (.list ((cntU us).map natD)) := by
        rw [law_numbers_ok (by omega)]
        unfold cntU
        rw [List.map_map]; rfl
      have mx := xMaxNL (sort_ne une)
      have lc : gLen (.list ((cntU us).map natD)) = some (.int ((cntU us).length : Nat)) := by rw [xLenL, List.length_map]
      have cl : (cntU us).length ≤ 16 := by
        unfold cntU
        have := sortSet_len (l := us)
        rw [List.length_map]; omega
      have le : gLe (natD (mxN (cntU us))) (.int q) = some (.bool (decide (((mxN (cntU us) : Nat) : Int) ≤ q))) := xLe
      have r1 := is_rsn_ok (q := q) (h := ((cntU us).length : Nat)) ok (by omega) re
      have r2 := law_rsn_ok (q := q) (h := ((cntU us).length : Nat)) ok (by omega) re
      refine ⟨decide (((mxN (cntU us) : Nat) : Int) ≤ q) && rsB R q ((cntU us).length : Nat) re, ?_, ?_⟩
      · simp -implicitDefEqProofs only [f_rooms_holds, it, xTruB, Bool.not_true, Bool.false_eq_true, if_false, ln, n2, asB_bool, i0, sa, un, eu, ss, xSeqL, m1, mx, le, lc, r1, ifB_bool, Option.bind_some]
        cases decide (((mxN (cntU us) : Nat) : Int) ≤ q) <;> rfl
      · simp -implicitDefEqProofs only [f__law_due, ros_ix, em, it, xTruB, Bool.not_true, Bool.false_eq_true, if_false, ln, n2, asB_bool, i0, i1, sl, nu, mx, le, lc, r2, ifB_bool, Option.bind_some]
        cases decide (((mxN (cntU us) : Nat) : Int) ≤ q) <;> rfl
  · by_cases c : R.ls = []
    · obtain ⟨b, e1, e2⟩ := law_emp (q := q) c hv
      have b0 : b = false := by
        rw [Bool.eq_false_iff]
        intro z
        have := h (.tuple []) (.tuple [.str "none"]) (e2.mp z)
        rw [c] at this
        cases this
      subst b0
      exact ⟨false, prog_bad ok h, e1⟩
    · exact ⟨false, prog_bad ok h, law_bad51 ok c h⟩
end
theorem judge51 {R : Ros} {q : Int} {v : PyData} (ok : RosOk 8 16 R) (hq : q.natAbs < 2 ^ 100) (hv : Vl 12 1000000 v) : L_law_3 (rosD R) (.int q) v () = some (.nx, ()) := by
  obtain ⟨b, e1, e2⟩ := both_ok (q := q) ok (hv.mono (n' := 58) (s' := 16000000) (by decide) (by decide))
  have vR : Vl 12 20000 (rosD R) := (ros_vl ok 4 (by decide) (by decide)).mono (by decide) (by decide)
  have vq : Vl 12 6500 (.int q) := vl_smallI (k := 100) (by decide) hq (by decide)
  have g1 := gRepr_ok ((VlL.cons vR (VlL.cons vq (VlL.cons hv (VlL.nil (s := 0))))).tuple) (by decide) (by decide)
  have g2 : gRepr (.bool b) = some (.str (PyData.bool b).shown) := gRepr_ok (vl_bool (n := 0) (s := 0)) (by decide) (by decide)
  have ne : ∀ s : Str, gNe (.str s) (.str s) = some (.bool false) := fun s => by
    rw [gNe_ok (x := .str s) (y := .str s) (.inl (Nat.zero_le 60)) rfl rfl, eqv_str, beq_self_eq_true]; rfl
  simp -implicitDefEqProofs only [L_law_3, g1, e2, g2, e1, ne, asB_bool, Bool.false_eq_true, if_false, Option.bind_some]
theorem one51 {k : Nat} {d : PyData} (hd : Deck k d) (hk : k ≤ 900000) {l : List PyData} (h0 : 0 < l.length) (h1 : l.length ≤ 1000) : ∃ x d', f__law_one d (.list l) = some (x, d') ∧ x ∈ l ∧ Deck (k + 1) d' := by
  obtain ⟨r, d', g, k1, r0, r1⟩ := next_ok hd (by omega) (l.length : Int) (by omega) (by omega)
  obtain ⟨x, hx, e⟩ := gIx_at (xs := l) r0 (by omega)
  refine ⟨x, d', ?_, hx, k1⟩
  simp -implicitDefEqProofs only [f__law_one, xLenL, g, e, Option.bind_some]
/-- a schedule given out: few hours, none great -/
def Pl51 (v : PyData) : Prop := ∃ us : List Int, v = .tuple (us.map .int) ∧ us.length ≤ 16 ∧ ∀ u ∈ us, 0 ≤ u ∧ u ≤ 400000
theorem Pl51.vl {v : PyData} (h : Pl51 v) : Vl 1 19830 v := by
  obtain ⟨us, rfl, h1, h2⟩ := h
  have : VlL 0 (us.length * (1236 + 2)) (us.map .int) := vl_map (c := 1236) fun u hu => vl_smallI (k := 19) (by decide) (by have := h2 u hu; omega) (by decide)
  exact this.tuple.mono (by decide) (by omega)
theorem nodup_le51 : ∀ {l r : List Nat}, l.Nodup → (∀ x ∈ l, x ∈ r) → l.length ≤ r.length
  | [], _, _, _ => Nat.zero_le _
  | a :: l, r, nd, h => by
    obtain ⟨n1, n2⟩ := List.nodup_cons.mp nd
    have ha := h a (List.mem_cons_self ..)
    have := nodup_le51 (l := l) (r := r.erase a) n2 fun x hx => (List.mem_erase_of_ne (fun e : x = a => n1 (by rw [← e]; exact hx))).mpr (h x (List.mem_cons_of_mem _ hx))
    rw [List.length_erase_of_mem ha] at this
    have := List.length_pos_of_mem ha
    rw [List.length_cons]; omega
theorem compact_ok {R : Ros} (ok : RosOk 8 16 R) (d : PyData) : ∃ v, f__law_compact d (rosD R) = some (v, d) ∧ Pl51 v := by
  have hn := ok.len
  have ln : gLen (.tuple (R.ls.map les)) = some (.int (R.ls.length : Nat)) := by rw [xLenT, List.length_map]
  obtain ⟨s', h5, fs, rfl, l5, b5⟩ := foldS_range (f := L__law_compact_1 (rosD R)) (s := .tuple []) (n := R.ls.length)
    (fun i s => ∃ fs : List Nat, s = .tuple (fs.map natD) ∧ fs.length = i ∧ ∀ f ∈ fs, f < 40) ⟨[], rfl, rfl, fun f h => by cases h⟩ fun i s hi h => by
      obtain ⟨fs, rfl, lf, bf⟩ := h
      have rg : rng1 (natD i) = some ((List.range i).map natD) := rng1_nat (by omega)
      have r40 : rng1 (.int 40) = some ((List.range 40).map natD) := rng1_ok (by decide) (by decide)
      obtain ⟨tk, et, lt⟩ : ∃ tk : List Nat, filS ((List.range i).map natD) (C__law_compact_1 (rosD R) (.tuple (fs.map natD)) (natD i)) = some (tk.map natD) ∧ tk.length ≤ i := by
        refine ⟨((List.range i).filter fun k => rival (lsA R.ls k) (lsA R.ls i)).map fun k => fs.getD k 0, ?_, ?_⟩
        · rw [List.map_map]
          refine filS_of fun k hk => ?_
          have hk := List.mem_range.mp hk
          have rv : f__law_are_rivals (rosD R) (natD k) (natD i) = some (.bool (rival (lsA R.ls k) (lsA R.ls i))) := by
            have := law_riv_two (T := .int R.T) (G := .int R.G) (ls := R.ls) (i := k) (j := i) (by omega) hi hk
            have e1 : lsA R.ls k = R.ls[k]'(by omega) := by unfold lsA; rw [List.getD_eq_getElem?_getD, List.getElem?_eq_getElem (by omega)]; rfl
            have e2 : lsA R.ls i = R.ls[i] := by unfold lsA; rw [List.getD_eq_getElem?_getD, List.getElem?_eq_getElem hi]; rfl
            rw [e1, e2]; exact this
          have g : gIx (.tuple (fs.map natD)) (natD k) = some (natD (fs.getD k 0)) := at_getD (f := natD) (by omega) 0
          simp -implicitDefEqProofs only [C__law_compact_1, rv, xTruB, g, Option.bind_some]
          split <;> rfl
        · rw [List.length_map]
          exact Nat.le_trans (List.length_filter_le _ _) (by rw [List.length_range]; exact Nat.le_refl _)
      have f2 : filS ((List.range 40).map natD) (C__law_compact_2 (.list (tk.map natD))) = some (((List.range 40).filter fun x => !decide (x ∈ tk)).map natD) := filS_of fun x _ => by
        simp -implicitDefEqProofs only [C__law_compact_2, notin_list, asB_bool, Option.bind_some]
        split <;> rfl
      have ne : ((List.range 40).filter fun x => !decide (x ∈ tk)) ≠ [] := fun e => by
        have all : ∀ x ∈ List.range 40, x ∈ tk := fun x hx => by
          have := List.filter_eq_nil_iff.mp e x hx
          simpa using this
        have := nodup_le51 List.nodup_range all
        rw [List.length_range] at this
        omega
      have mn := xMinNL ne
      have mm : mnN ((List.range 40).filter fun x => !decide (x ∈ tk)) < 40 := List.mem_range.mp (List.mem_filter.mp (mn_mem ne)).1
      have ad : gAdd (.tuple (fs.map natD)) (.tuple [natD (mnN ((List.range 40).filter fun x => !decide (x ∈ tk)))]) = some (.tuple ((fs ++ [mnN ((List.range 40).filter fun x => !decide (x ∈ tk))]).map natD)) := by
        rw [xAddT (by rw [List.length_map]; simp; omega), List.map_append]; rfl
      refine ⟨.tuple ((fs ++ [mnN ((List.range 40).filter fun x => !decide (x ∈ tk))]).map natD), ?_, _, rfl, by rw [List.length_append, lf]; rfl, fun f hf => ?_⟩
      · simp -implicitDefEqProofs only [L__law_compact_1, rg, et, r40, f2, mn, ad, Option.bind_some]
      · rcases List.mem_append.mp hf with z | z
        · exact bf f z
        · rw [List.mem_singleton.mp z]; exact mm
  refine ⟨.tuple (fs.map natD), ?_, fs.map fun (x : Nat) => (x : Int), by rw [← cast_list], by rw [List.length_map]; omega, fun u hu => ?_⟩
  · simp -implicitDefEqProofs only [f__law_compact, ros_ix, ln, rng1_nat (n := R.ls.length) (by omega), h5, Option.bind_some]
  · obtain ⟨f, hf, rfl⟩ := List.mem_map.mp hu
    have := b5 f hf
    omega
def Rs51 (v : PyData) : Prop := Vl 1 700 v
theorem reasons_ok {R : Ros} (ok : RosOk 8 16 R) : ∃ l : List PyData, f__law_reasons (rosD R) = some (.list l) ∧ 2 ≤ l.length ∧ l.length ≤ 20 ∧ ∀ v ∈ l, Rs51 v := by
  have T0 := ok.T0
  have T1 := ok.T1
  have G0 := ok.G0
  have G1 := ok.G1
  have p2 : prt (.int 2) = some (some ((2 : Nat) : Int)) := rfl
  have sl : gSl (rosD R) none (some ((2 : Nat) : Int)) = some (.tuple [.int R.T, .int R.G]) := by
    show some (PyData.tuple (cutD _ none (some ((2 : Nat) : Int)))) = _
    rw [cut_take]; rfl
  have zp : zipS (.tuple [.str "teacher", .str "group"]) (.tuple [.int R.T, .int R.G]) = some [.tuple [.str "teacher", .int R.T], .tuple [.str "group", .int R.G]] := rfl
  have vs : ∀ s : Str, s = "teacher" ∨ s = "group" ∨ s = "rooms" ∨ s = "none" → Vl 0 200 (.str s) := fun s hs => by
    refine ⟨rfl, Nat.zero_le _, ?_⟩
    rcases hs with rfl | rfl | rfl | rfl <;> decide +kernel
  have step : ∀ (s : Str) (T : Int) (acc : List PyData), (s = "teacher" ∨ s = "group") → 1 ≤ T → T ≤ 8 → acc.length ≤ 11 → ∃ more : List PyData, L__law_reasons_1 (.tuple [.str s, .int T]) (.list acc) = some (.list (acc ++ more)) ∧ more.length ≤ 9 ∧ ∀ v ∈ more, Rs51 v := fun s T acc hs h0 h1 ha => by
    have un : un2 (.tuple [.str s, .int T]) = some (.str s, .int T) := rfl
    have rg : rng1 (.int (T + 1)) = some ((List.range (T + 1).toNat).map natD) := rng1_ok (by omega) (by omega)
    have mp : mapS ((List.range (T + 1).toNat).map natD) (C__law_reasons_1 (.str s)) = some ((List.range (T + 1).toNat).map fun i => .tuple [.str s, natD i]) := mapS_of fun i _ => rfl
    have ml : ((List.range (T + 1).toNat).map fun i => PyData.tuple [.str s, natD i]).length ≤ 9 := by rw [List.length_map, List.length_range]; omega
    have ex : gExt (.list acc) (.list ((List.range (T + 1).toNat).map fun i => PyData.tuple [.str s, natD i])) = some (.list (acc ++ (List.range (T + 1).toNat).map fun i => PyData.tuple [.str s, natD i])) := xExt (by omega)
    refine ⟨_, ?_, ml, fun v hv => ?_⟩
    · simp -implicitDefEqProofs only [L__law_reasons_1, un, xAdd, rg, mp, ex, Option.bind_some]
    · obtain ⟨i, hi, rfl⟩ := List.mem_map.mp hv
      have hi := List.mem_range.mp hi
      exact ((VlL.cons (vs s (hs.elim .inl fun z => .inr (.inl z))) (VlL.cons (vl_smallI (n := 0) (i := ((i : Nat) : Int)) (k := 5) (by decide) (by omega) (Nat.le_refl _)) (VlL.nil (s := 0)))).tuple).mono (by decide) (by decide)
  obtain ⟨m1, e1, l1, v1⟩ := step "teacher" R.T [.tuple [.str "rooms"], .tuple [.str "none"]] (.inl rfl) T0 T1 (by decide)
  obtain ⟨m2, e2, l2, v2⟩ := step "group" R.G ([.tuple [.str "rooms"], .tuple [.str "none"]] ++ m1) (.inr rfl) G0 G1 (by rw [List.length_append]; simp; omega)
  have fo : foldS [.tuple [.str "teacher", .int R.T], .tuple [.str "group", .int R.G]] L__law_reasons_1 (.list [.tuple [.str "rooms"], .tuple [.str "none"]]) = some (.list ([.tuple [.str "rooms"], .tuple [.str "none"]] ++ m1 ++ m2)) := by
    show (L__law_reasons_1 _ _).bind _ = _
    rw [e1]
    show (L__law_reasons_1 _ _).bind _ = _
    rw [e2]; rfl
  refine ⟨[.tuple [.str "rooms"], .tuple [.str "none"]] ++ m1 ++ m2, by simp -implicitDefEqProofs only [f__law_reasons, p2, sl, zp, fo, Option.bind_some], by rw [List.length_append, List.length_append]; simp only [List.length_cons, List.length_nil]; omega, by rw [List.length_append, List.length_append]; simp only [List.length_cons, List.length_nil]; omega, fun v hv => ?_⟩
  have v0 : ∀ s : Str, s = "rooms" ∨ s = "none" → Rs51 (.tuple [.str s]) := fun s hs => ((VlL.cons (vs s (by rcases hs with h | h; exact .inr (.inr (.inl h)); exact .inr (.inr (.inr h)))) (VlL.nil (s := 0))).tuple).mono (by decide) (by decide)
  rcases List.mem_append.mp hv with z | z
  · rcases List.mem_append.mp z with z | z
    · simp only [List.mem_cons, List.not_mem_nil, or_false] at z
      rcases z with rfl | rfl
      · exact v0 _ (.inl rfl)
      · exact v0 _ (.inr rfl)
    · exact v1 v z
  · exact v2 v z
theorem forS_all {f : PyData → Unit → Option (Out × Unit)} : ∀ {l : List PyData}, (∀ a ∈ l, f a () = some (.nx, ())) → forS l f () = some (.nx, ())
  | [], _ => rfl
  | a :: l, h => by
    show (f a ()).bind _ = _
    rw [h a (List.mem_cons_self ..)]
    exact forS_all fun b hb => h b (List.mem_cons_of_mem _ hb)
theorem step51 {R : Ros} (ok : RosOk 8 16 R) {plans : List PyData} (h0 : 0 < plans.length) (h3 : plans.length ≤ 3) (hp : ∀ p ∈ plans, Pl51 p) {k : Nat} {d : PyData} (hd : Deck k d) (hk : k ≤ 300000) {vals : List PyData} (hv : ∀ v ∈ vals, Vl 12 1000000 v) (hl : vals.length ≤ 100) (x : PyData) :
    ∃ d' vals', L_law_2 (rosD R) (.list plans) x (d, .list vals) = some (d', .list vals') ∧ Deck (k + 60) d' ∧ (∀ v ∈ vals', Vl 12 1000000 v) ∧ vals'.length ≤ vals.length + 3 := by
  obtain ⟨p, d1, e1, hp1, k1⟩ := one51 hd (by omega) h0 (by omega)
  obtain ⟨rs, e2, r2, r20, vr⟩ := reasons_ok ok
  obtain ⟨r, d2, e3, hr, k2⟩ := one51 k1 (by omega) (l := rs) (by omega) (by omega)
  have vp : Vl 2 20554 (.tuple [p, r]) := ((VlL.cons (hp p hp1).vl (VlL.cons (vr r hr) (VlL.nil (s := 0)))).tuple).mono (by decide) (by decide)
  obtain ⟨⟨v1, d3⟩, e4, k3, w1⟩ := changed51 12 2 _ d2 _ 20554 (by decide) vp (by decide) k2 (by omega)
  obtain ⟨⟨v2, d4⟩, e5, k4, w2⟩ := changed51 12 2 _ d3 _ 20554 (by decide) vp (by decide) k3 (by omega)
  obtain ⟨⟨v3, d5⟩, e6, k5, w3⟩ := changed51 12 6 _ d4 v2 109250 (by decide) (w2.mono (by decide) (by decide)) (by decide) k4 (by omega)
  have ad : gAdd (.list vals) (.list [.tuple [p, r], v1, v3]) = some (.list (vals ++ [.tuple [p, r], v1, v3])) := xAddL (by simp; omega)
  refine ⟨d5, vals ++ [.tuple [p, r], v1, v3], ?_, k5.mono (by omega), fun v hv' => ?_, by rw [List.length_append]; simp⟩
  · simp -implicitDefEqProofs only [L_law_2, e1, e2, e3, e4, e5, e6, ad, Option.bind_some]
  · rcases List.mem_append.mp hv' with z | z
    · exact hv v z
    · simp only [List.mem_cons, List.not_mem_nil, or_false] at z
      rcases z with rfl | rfl | rfl
      · exact vp.mono (by decide) (by decide)
      · exact w1.mono (by decide) (by decide)
      · exact w3.mono (by decide) (by decide)
theorem core51 {R : Ros} {hs : List Nat} (ok : RosOk 8 16 R) (hl : hs.length = R.ls.length) (h8 : ∀ h ∈ hs, h < 8) {k : Nat} {d : PyData} (hd : Deck k d) (hk : k ≤ 90000) :
    ∃ d', ((f__law_numbers (.tuple (hs.map natD))).bind fun v12 => (gAdd v12 (.list [(.int 1)])).bind fun v13 => (gMax v13).bind fun v14 => (gAdd v14 (.int 1)).bind fun v15 => (DL.gSub v14 (.int 1)).bind fun v16 => (gMax2 (.int 1) v16).bind fun v17 => (f__law_rooms d).bind fun v18 => (f__law_one v18.2 (.list [v14, v14, v15, v17, v18.1])).bind fun v19 => (f__law_compact v19.2 (rosD R)).bind fun v20 => (f__law_spread v20.2 (.tuple (hs.map natD))).bind fun v21 => (f__law_reasons (rosD R)).bind fun v22 => (seqD v22).bind fun v23 => (mapS v23 (C_law_1 (.tuple (hs.map natD)))).bind fun v24 => (rng1 (.int 12)).bind fun v25 => (foldS v25 (L_law_2 (rosD R) (.list [.tuple (hs.map natD), v20.1, v21.1])) (v21.2, (.list v24))).bind fun v33 => (f__law_odd v33.1).bind fun v34 => (gAdd v33.2 (.list [v34.1])).bind fun v35 => (seqD v35).bind fun v36 => (forS v36 (L_law_3 (rosD R) v19.1) ()).bind fun v48 => thenS v48 (fun s49 => some (Out.nx, v34.2)) (fun d51 s50 => some (.rt d51, v34.2))) = some (.nx, d') ∧ Deck (k + 800) d' := by
  have hn := ok.len
  have hc : hs.map natD = (hs.map fun x => ((x : Nat) : Int)).map .int := cast_list hs
  have nu : f__law_numbers (.tuple (hs.map natD)) = some (.list ((cntU (hs.map fun x => ((x : Nat) : Int))).map natD)) := by
    rw [hc, law_numbers_ok (by rw [List.length_map]; omega)]
    unfold cntU
    rw [List.map_map]; rfl
  obtain ⟨us, eu⟩ : ∃ us, us = hs.map fun x => ((x : Nat) : Int) := ⟨_, rfl⟩
  rw [← eu] at nu hc
  have ul : us.length ≤ 16 := by rw [eu, List.length_map]; omega
  have cl : (cntU us).length ≤ 16 := by
    unfold cntU
    have := sortSet_len (l := us)
    rw [List.length_map]; omega
  have ad1 : gAdd (.list ((cntU us).map natD)) (.list [.int 1]) = some (.list ((cntU us ++ [1]).map natD)) := by
    rw [xAddL (by rw [List.length_map]; simp; omega), List.map_append]; rfl
  have mx := xMaxNL (l := cntU us ++ [1]) (by simp)
  obtain ⟨m, em⟩ : ∃ m, m = mxN (cntU us ++ [1]) := ⟨_, rfl⟩
  rw [← em] at mx
  have m16 : m ≤ 16 := by
    have : m ∈ cntU us ++ [1] := by rw [em]; exact mx_mem (by simp)
    rcases List.mem_append.mp this with z | z
    · obtain ⟨u, _, rfl⟩ := List.mem_map.mp z
      exact Nat.le_trans (List.count_le_length) ul
    · rw [List.mem_singleton.mp z]; decide
  have a15 : gAdd (natD m) (.int 1) = some (.int ((m : Int) + 1)) := by show gAdd (.int _) _ = _; rw [xAdd]
  have a16 : DL.gSub (natD m) (.int 1) = some (.int ((m : Int) - 1)) := rfl
  have a17 : gMax2 (.int 1) (.int ((m : Int) - 1)) = some (.int (if ((m : Int) - 1) > 1 then ((m : Int) - 1) else 1)) := rfl
  obtain ⟨q0, d1, e1, k1, q1, q2⟩ := rooms_ok hd (by omega)
  obtain ⟨qv, d2, e2, hq, k2⟩ := one51 k1 (by omega) (l := [natD m, natD m, .int ((m : Int) + 1), .int (if ((m : Int) - 1) > 1 then ((m : Int) - 1) else 1), .int q0]) (Nat.succ_pos _) (by simp only [List.length_cons, List.length_nil]; omega)
  obtain ⟨q, rfl, qb⟩ : ∃ q : Int, qv = .int q ∧ q.natAbs < 2 ^ 100 := by
    have small : ∀ i : Int, 0 ≤ i → i ≤ 100 → i.natAbs < 2 ^ 100 := fun i a b => Nat.lt_of_le_of_lt (show i.natAbs ≤ 100 by omega) (by decide)
    simp only [List.mem_cons, List.not_mem_nil, or_false] at hq
    rcases hq with rfl | rfl | rfl | rfl | rfl
    · exact ⟨((m : Nat) : Int), rfl, small _ (by omega) (by omega)⟩
    · exact ⟨((m : Nat) : Int), rfl, small _ (by omega) (by omega)⟩
    · exact ⟨_, rfl, small _ (by omega) (by omega)⟩
    · exact ⟨_, rfl, small _ (by split <;> omega) (by split <;> omega)⟩
    · exact ⟨_, rfl, q2⟩
  obtain ⟨cp, e3, hcp⟩ := compact_ok ok d2
  obtain ⟨nf, d4, e4, k4, _, nfb⟩ := spread_ok k2 (by omega) h8
  have p1 : Pl51 (.tuple (hs.map natD)) := ⟨us, by rw [hc], ul, fun u hu => by
    rw [eu] at hu
    obtain ⟨h, hh, rfl⟩ := List.mem_map.mp hu
    have := h8 h hh
    omega⟩
  have p3 : Pl51 (.tuple ((hs.map nf).map .int)) := ⟨hs.map nf, rfl, by rw [List.length_map]; omega, fun u hu => by
    obtain ⟨h, hh, rfl⟩ := List.mem_map.mp hu
    exact nfb h (h8 h hh)⟩
  obtain ⟨rs, e5, r2, r20, vr⟩ := reasons_ok ok
  have mp : mapS rs (C_law_1 (.tuple (hs.map natD))) = some (rs.map fun r => .tuple [.tuple (hs.map natD), r]) := mapS_ok fun r _ => rfl
  have v0 : ∀ v ∈ rs.map fun r => PyData.tuple [.tuple (hs.map natD), r], Vl 12 1000000 v := fun v hv => by
    obtain ⟨r, hr, rfl⟩ := List.mem_map.mp hv
    exact ((VlL.cons p1.vl (VlL.cons (vr r hr) (VlL.nil (s := 0)))).tuple).mono (by decide) (by decide)
  have rg : rng1 (.int 12) = some ((List.range 12).map natD) := rng1_ok (by decide) (by decide)
  obtain ⟨s', e6, d6, vals, rfl, k6, lv, hv⟩ := foldS_range (f := L_law_2 (rosD R) (.list [.tuple (hs.map natD), cp, .tuple ((hs.map nf).map .int)])) (s := (d4, .list (rs.map fun r => PyData.tuple [.tuple (hs.map natD), r]))) (n := 12)
    (fun i s => ∃ d vals, s = (d, .list vals) ∧ Deck (k + 12 + 60 * i) d ∧ vals.length ≤ 20 + 3 * i ∧ ∀ v ∈ vals, Vl 12 1000000 v) ⟨d4, _, rfl, k4.mono (by omega), by rw [List.length_map]; omega, v0⟩ fun i s hi h => by
      obtain ⟨dd, vals, rfl, kd, lv, hv⟩ := h
      obtain ⟨d', vals', e, k', v', l'⟩ := step51 ok (plans := [.tuple (hs.map natD), cp, .tuple ((hs.map nf).map .int)]) (Nat.succ_pos _) (by simp only [List.length_cons, List.length_nil]; omega) (fun p hp => by
        simp only [List.mem_cons, List.not_mem_nil, or_false] at hp
        rcases hp with rfl | rfl | rfl
        · exact p1
        · exact hcp
        · exact p3) kd (by omega) hv (by omega) (natD i)
      exact ⟨_, e, d', vals', rfl, k'.mono (by omega), by omega, v'⟩
  obtain ⟨y, d7, e7, k7, vy⟩ := odd51_ok k6 (by omega)
  have ad2 : gAdd (.list vals) (.list [y]) = some (.list (vals ++ [y])) := xAddL (by simp; omega)
  have fo := forS_all (f := L_law_3 (rosD R) (.int q)) (l := vals ++ [y]) fun v hv' => judge51 ok qb (by
    rcases List.mem_append.mp hv' with z | z
    · exact hv v z
    · rw [List.mem_singleton.mp z]; exact vy.mono (by decide) (by decide))
  refine ⟨d7, ?_, k7.mono (by omega)⟩
  simp -implicitDefEqProofs only [nu, ad1, mx, a15, a16, a17, e1, e2, e3, e4, e5, xSeqL, mp, rg, e6, e7, ad2, fo, thenS_nx, Option.bind_some]
theorem turn51 {k : Nat} {d : PyData} (hd : Deck k d) (hk : k ≤ 80000) (x : PyData) : ∃ d', L_law_1 x d = some (.nx, d') ∧ Deck (k + 1200) d' := by
  obtain ⟨T, G, ps, d1, h1, k1, ok, _, h8⟩ := planned_ok hd (by omega)
  obtain ⟨R, eR⟩ : ∃ R : Ros, R = ⟨T, G, ps.map fun p => (p.1, p.2.1)⟩ := ⟨_, rfl⟩
  rw [← eR] at h1 ok
  have hl : (ps.map fun p => p.2.2).length = R.ls.length := by rw [eR, List.length_map, List.length_map]
  have u : un2L (.list [rosD R, .tuple ((ps.map fun p => p.2.2).map natD)]) = some (rosD R, .tuple ((ps.map fun p => p.2.2).map natD)) := rfl
  obtain ⟨r, d2, h2, k2, r0, r1⟩ := next_ok k1 (by omega) 6 (by omega) (by omega)
  have e : gEq (.int r) (.int 0) = some (.bool (decide (r = 0))) := xEq
  by_cases c : r = 0
  · have ok' : RosOk 8 16 ⟨R.T, R.G, []⟩ := ⟨ok.T0, ok.T1, ok.G0, ok.G1, Nat.zero_le _, fun p hp => by cases hp⟩
    obtain ⟨d', e1, k'⟩ := core51 (R := ⟨R.T, R.G, []⟩) (hs := []) ok' rfl (fun h hh => by cases hh) k2 (by omega)
    have i0 : gIx (rosD R) (.int 0) = some (.int R.T) := rfl
    have i1 : gIx (rosD R) (.int 1) = some (.int R.G) := rfl
    have un : un2 (.tuple [.tuple [.int R.T, .int R.G, .tuple []], .tuple []]) = some (rosD ⟨R.T, R.G, []⟩, .tuple (([] : List Nat).map natD)) := rfl
    rw [decide_eq_true c] at e
    refine ⟨d', ?_, k'.mono (by omega)⟩
    simp -implicitDefEqProofs only [L_law_1, h1, u, h2, e, asB_bool, if_true, i0, i1, un, Option.bind_some]
    exact e1
  · obtain ⟨d', e1, k'⟩ := core51 (R := R) (hs := ps.map fun p => p.2.2) ok hl (fun h hh => by
      obtain ⟨p, hp, rfl⟩ := List.mem_map.mp hh
      exact h8 p hp) k2 (by omega)
    rw [decide_eq_false c] at e
    refine ⟨d', ?_, k'.mono (by omega)⟩
    simp -implicitDefEqProofs only [L_law_1, h1, u, h2, e, asB_bool, Bool.false_eq_true, if_false, Option.bind_some]
    exact e1
theorem law_true (ns : List Int) (h : ns.length ≤ 63) : ∃ fs, F_law [.list (ns.map .int)] = some (.bool true, fs) := by
  obtain ⟨d, h1, k1⟩ := deck_ok ns h
  obtain ⟨s', h2, k2⟩ := forS_range (f := L_law_1) (s := d) (n := 8) (fun i s => Deck (1200 * i) s) k1 fun i s hi hs => by
    obtain ⟨d', e, k'⟩ := turn51 hs (by omega) (natD i)
    exact ⟨d', e, k'.mono (by omega)⟩
  have r : rng1 (.int 8) = some ((List.range 8).map natD) := rng1_ok (by decide) (by decide)
  rw [f_law_eq]
  have : f_law (.list (ns.map .int)) = some (.bool true) := by
    simp -implicitDefEqProofs only [f_law, h1, K_law_2, K_law_1, Option.bind_some, r, h2, thenS_nx]
  rw [this]
  exact ⟨_, rfl⟩

end LK


/-! ### (the walk) -/
namespace LK
open PySem L2 PySem.Spec PyProof.Rows DL
/-! ### the text -/
def topS (i : Nat) : Stmt := PySem.Challenge.pw_listedges_k51_rooms_judged.main.body.getD i (.Pass ⟨0, 0, 0, 0⟩)
abbrev st__law_deck : Stmt := topS 16
theorem sc__law_deck : FnScope ["_law_script", "_law_cell"] ["_law_script"] (defScope st__law_deck) := ⟨rfl, rfl, rfl, by decide +kernel, rfl, by decide +kernel, by decide +kernel⟩
abbrev st__law_next : Stmt := topS 17
theorem sc__law_next : FnScope ["_law_deck_here", "_law_many", "_law_cell", "_law_digit"] ["_law_deck_here", "_law_many"] (defScope st__law_next) := ⟨rfl, rfl, rfl, by decide +kernel, rfl, by decide +kernel, by decide +kernel⟩
abbrev st__law_shuffled : Stmt := topS 18
theorem sc__law_shuffled : FnScope ["_law_deck_here", "_law_items", "_law_left", "_law_found"] ["_law_deck_here", "_law_items"] (defScope st__law_shuffled) := ⟨rfl, rfl, rfl, by decide +kernel, rfl, by decide +kernel, by decide +kernel⟩
abbrev st__law_planned : Stmt := topS 19
theorem sc__law_planned : FnScope ["_law_deck_here", "_law_most", "_law_people", "_law_teachers", "_law_groups", "_law_rows", "_law_hour", "_law_left", "_law_right", "_law_teacher", "_law_group", "_law_lessons"] ["_law_deck_here", "_law_most"] (defScope st__law_planned) := ⟨rfl, rfl, rfl, by decide +kernel, rfl, by decide +kernel, by decide +kernel⟩
abbrev st__law_numbers : Stmt := topS 20
theorem sc__law_numbers : FnScope ["_law_schedule", "_law_hour", "_law_one_here"] ["_law_schedule"] (defScope st__law_numbers) := ⟨rfl, rfl, rfl, by decide +kernel, rfl, by decide +kernel, by decide +kernel⟩
abbrev st__law_one : Stmt := topS 21
theorem sc__law_one : FnScope ["_law_deck_here", "_law_items"] ["_law_deck_here", "_law_items"] (defScope st__law_one) := ⟨rfl, rfl, rfl, by decide +kernel, rfl, by decide +kernel, by decide +kernel⟩
abbrev st__law_rooms : Stmt := topS 22
theorem sc__law_rooms : FnScope ["_law_deck_here"] ["_law_deck_here"] (defScope st__law_rooms) := ⟨rfl, rfl, rfl, by decide +kernel, rfl, by decide +kernel, by decide +kernel⟩
abbrev st__law_are_rivals : Stmt := topS 23
theorem sc__law_are_rivals : FnScope ["_law_roster", "_law_one_here", "_law_other", "_law_first", "_law_second"] ["_law_roster", "_law_one_here", "_law_other"] (defScope st__law_are_rivals) := ⟨rfl, rfl, rfl, by decide +kernel, rfl, by decide +kernel, by decide +kernel⟩
abbrev st__law_compact : Stmt := topS 24
theorem sc__law_compact : FnScope ["_law_deck_here", "_law_roster", "_law_found", "_law_lesson", "_law_taken", "_law_k", "_law_hour"] ["_law_deck_here", "_law_roster"] (defScope st__law_compact) := ⟨rfl, rfl, rfl, by decide +kernel, rfl, by decide +kernel, by decide +kernel⟩
abbrev st__law_spread : Stmt := topS 25
theorem sc__law_spread : FnScope ["_law_deck_here", "_law_schedule", "_law_step", "_law_names", "_law_k", "_law_hour"] ["_law_deck_here", "_law_schedule"] (defScope st__law_spread) := ⟨rfl, rfl, rfl, by decide +kernel, rfl, by decide +kernel, by decide +kernel⟩
abbrev st__law_reasons : Stmt := topS 26
theorem sc__law_reasons : FnScope ["_law_roster", "_law_found", "_law_side", "_law_people", "_law_person"] ["_law_roster"] (defScope st__law_reasons) := ⟨rfl, rfl, rfl, by decide +kernel, rfl, by decide +kernel, by decide +kernel⟩
abbrev st__law_odd : Stmt := topS 27
theorem sc__law_odd : FnScope ["_law_deck_here", "_law_some"] ["_law_deck_here"] (defScope st__law_odd) := ⟨rfl, rfl, rfl, by decide +kernel, rfl, by decide +kernel, by decide +kernel⟩
abbrev st__law_changed : Stmt := topS 28
theorem sc__law_changed : FnScope ["_law_deck_here", "_law_value", "_law_spot", "_law_way"] ["_law_deck_here", "_law_value"] (defScope st__law_changed) := ⟨rfl, rfl, rfl, by decide +kernel, rfl, by decide +kernel, by decide +kernel⟩
abbrev st__law_whole : Stmt := topS 29
theorem sc__law_whole : FnScope ["_law_value"] ["_law_value"] (defScope st__law_whole) := ⟨rfl, rfl, rfl, by decide +kernel, rfl, by decide +kernel, by decide +kernel⟩
abbrev st__law_is_schedule : Stmt := topS 30
theorem sc__law_is_schedule : FnScope ["_law_roster", "_law_value", "_law_one_here", "_law_hour", "_law_k"] ["_law_roster", "_law_value"] (defScope st__law_is_schedule) := ⟨rfl, rfl, rfl, by decide +kernel, rfl, by decide +kernel, by decide +kernel⟩
abbrev st__law_degrees : Stmt := topS 31
theorem sc__law_degrees : FnScope ["_law_roster", "_law_found", "_law_side", "_law_person", "_law_row"] ["_law_roster"] (defScope st__law_degrees) := ⟨rfl, rfl, rfl, by decide +kernel, rfl, by decide +kernel, by decide +kernel⟩
abbrev st__law_is_reason : Stmt := topS 32
theorem sc__law_is_reason : FnScope ["_law_roster", "_law_rooms_here", "_law_hours", "_law_value", "_law_numbers_here", "_law_part"] ["_law_roster", "_law_rooms_here", "_law_hours", "_law_value"] (defScope st__law_is_reason) := ⟨rfl, rfl, rfl, by decide +kernel, rfl, by decide +kernel, by decide +kernel⟩
abbrev st__law_due : Stmt := topS 33
theorem sc__law_due : FnScope ["_law_roster", "_law_rooms_here", "_law_value", "_law_numbers_here"] ["_law_roster", "_law_rooms_here", "_law_value"] (defScope st__law_due) := ⟨rfl, rfl, rfl, by decide +kernel, rfl, by decide +kernel, by decide +kernel⟩
abbrev st_is_number : Stmt := topS 2
theorem sc_is_number : FnScope ["value", "low", "high"] ["value", "low", "high"] (defScope st_is_number) := ⟨rfl, rfl, rfl, by decide +kernel, rfl, by decide +kernel, by decide +kernel⟩
abbrev st_is_hour : Stmt := topS 7
theorem sc_is_hour : FnScope ["value"] ["value"] (defScope st_is_hour) := ⟨rfl, rfl, rfl, by decide +kernel, rfl, by decide +kernel, by decide +kernel⟩
abbrev st_are_rivals : Stmt := topS 5
theorem sc_are_rivals : FnScope ["roster", "one", "other", "first", "second"] ["roster", "one", "other"] (defScope st_are_rivals) := ⟨rfl, rfl, rfl, by decide +kernel, rfl, by decide +kernel, by decide +kernel⟩
abbrev st_schedule_error : Stmt := topS 8
theorem sc_schedule_error : FnScope ["roster", "value", "lessons", "one", "other", "hour"] ["roster", "value"] (defScope st_schedule_error) := ⟨rfl, rfl, rfl, by decide +kernel, rfl, by decide +kernel, by decide +kernel⟩
abbrev st_is_schedule : Stmt := topS 9
theorem sc_is_schedule : FnScope ["roster", "value"] ["roster", "value"] (defScope st_is_schedule) := ⟨rfl, rfl, rfl, by decide +kernel, rfl, by decide +kernel, by decide +kernel⟩
abbrev st_lessons_of : Stmt := topS 3
theorem sc_lessons_of : FnScope ["roster", "side", "person", "place", "index", "lesson"] ["roster", "side", "person"] (defScope st_lessons_of) := ⟨rfl, rfl, rfl, by decide +kernel, rfl, by decide +kernel, by decide +kernel⟩
abbrev st_degrees : Stmt := topS 4
theorem sc_degrees : FnScope ["roster", "by_teacher", "person"] ["roster"] (defScope st_degrees) := ⟨rfl, rfl, rfl, by decide +kernel, rfl, by decide +kernel, by decide +kernel⟩
abbrev st_is_reason : Stmt := topS 13
theorem sc_is_reason : FnScope ["roster", "rooms", "hours", "value", "numbers"] ["roster", "rooms", "hours", "value"] (defScope st_is_reason) := ⟨rfl, rfl, rfl, by decide +kernel, rfl, by decide +kernel, by decide +kernel⟩
abbrev st_rooms_holds : Stmt := topS 14
theorem sc_rooms_holds : FnScope ["roster", "rooms", "value", "schedule", "reason", "numbers", "hour"] ["roster", "rooms", "value"] (defScope st_rooms_holds) := ⟨rfl, rfl, rfl, by decide +kernel, rfl, by decide +kernel, by decide +kernel⟩
abbrev st_law : Stmt := topS 34
theorem sc_law : FnScope ["_law_script", "_law_deck_here", "_law_turn", "_law_roster", "_law_schedule", "_law_most", "_law_rooms_here", "_law_plans", "_law_values", "_law_k", "_law_pair", "_law_value", "_law_kept", "_law_due_here", "_law_reason"] ["_law_script"] (defScope st_law) := ⟨rfl, rfl, rfl, by decide +kernel, rfl, by decide +kernel, by decide +kernel⟩
/-! ### the walk -/
section
variable {P : Program} {w : World} {K : PySem.W.Frag} {mg : Str → Option Value} {base : Heap}
theorem cal__law_deck (z_abs : mg "abs" = none) (z_len : mg "len" = none) {f : Addr} {fd : FuncData} (F : L2.Fun K "_law_deck" "_law_deck" st__law_deck f fd) (hm : mg "_law_deck" = some (.ref f)) (b : Binds K fd ["_law_script"] []) : CalG P w K mg base 1 "_law_deck" [.q] (.r [(.l .s), .s, .s, .s]) F__law_deck :=
  ⟨f, fd, ["_law_script"], fnG_dl (sf := S__law_deck) (mr := [.u, .u]) (po := []) (r := 1) F sc__law_deck rfl rfl (.stb rfl (.nil _ _)) (.inr nnx_ret) (fun cdv A outer s H E _ _ _ =>
      ss_one (ds_ret (pd_rec (pl_cons (pd_lc [("_law_cell", 1)] (pi_seq (pd_frz (pd_slQ 0))) (pg_nm 1) (pts_no) (pd_b1 clAbs z_abs bt_abs (pd_var 1))) (pl_cons (pd_int) (pl_cons (pd_int) (pl_cons (pd_bin opAdd (pd_int) (pd_bin opMul (pd_int) (pd_lenQ 0 z_len))) (pl_nil)))))) (.cons (.u _) (.cons (.rfl _) .nil)))), hm, F.kp, b⟩
theorem cal__law_next (z_int : mg "int" = none) {f : Addr} {fd : FuncData} (F : L2.Fun K "_law_next" "_law_next" st__law_next f fd) (hm : mg "_law_next" = some (.ref f)) (b : Binds K fd ["_law_deck_here", "_law_many"] []) : CalG P w K mg base 1 "_law_next" [(.r [(.l .s), .s, .s, .s]), .s] .s F__law_next :=
  ⟨f, fd, ["_law_deck_here", "_law_many"], fnG_dl (sf := S__law_next) (mr := [(.r [(.l .s), .s, .s, .s]), .u, .u, .u]) (po := [0]) (r := 2) F sc__law_next rfl rfl (.own (by decide) (.stb rfl (.nil _ _))) (.inl rfl) (fun cdv A outer s H E _ _ _ =>
      ss_cons (ds_pre [2] (ds_wh fuel [(.r [(.l .s), .s, .s, .s]), .s, .u, .u] (.cons (.rfl _) (.cons (.rfl _) (.cons (.rfl _) (.cons (.rfl _) .nil)))) (pb_w (pbw_and (pb_qcmp opEq (pq_ix ixAny (pq_var 0) (pq_int)) (pq_int)) (pbw_and1 (pb_qcmp opNe (pq_ix ixAny (pq_var 0) (pq_int)) (pq_nil)))))
        (ss_post [2] [1, 2, 3] (ss_le (ss_cons (ds_asg 2 (pd_popAt (pp_fld 0 (pp_var 0)) (pq_int)))
      (ss_cons (ds_setR 3 (pd_bin opMod (pd_bin opAdd (pd_bin opAdd (pd_bin opMul (pd_q (pq_ix ixAny (pq_var 0) (pq_int))) (pd_int)) (pd_var 2)) (pd_int)) (pd_int)) (pp_var 0))
      (ss_one (ds_setR 1 (pd_bin opMul (pd_var 2) (pd_t1 clInt z_int bt_int (pd_cmp opGe (pd_var 2) (pd_bin opPow (pd_int) (pd_int))))) (pp_var 0))))) (.cons (.rfl _) (.cons (.rfl _) (.cons (.u _) (.cons (.rfl _) .nil)))))) (.cons (.rfl _) (.cons (.rfl _) (.cons (.rfl _) (.cons (.rfl _) .nil))))) (.cons (.rfl _) (.cons (.rfl _) (.cons (.rfl _) (.cons (.rfl _) .nil)))))
      (ss_cons (ds_if (pb_qcmp opGt (pq_ix ixAny (pq_var 0) (pq_int)) (pq_int))
        (ss_cons (ds_asg 3 (pd_bin opMod (pd_q (pq_ix ixAny (pq_var 0) (pq_int))) (pd_var 1)))
      (ss_cons (ds_setR 1 (pd_bin opFdiv (pd_q (pq_ix ixAny (pq_var 0) (pq_int))) (pd_var 1)) (pp_var 0))
      (ss_one (ds_ret (pd_var 3) (.cons (.rfl _) (.cons (.u _) (.cons (.rfl _) (.cons (.u _) .nil))))))))
        (ss_nil))
      (ss_cons (ds_setR 2 (pd_bin opAdd (pd_q (pq_ix ixAny (pq_var 0) (pq_int))) (pd_int)) (pp_var 0))
      (ss_cons (ds_setR 3 (pd_bin opMod (pd_bin opAdd (pd_bin opAdd (pd_bin opMul (pd_q (pq_ix ixAny (pq_var 0) (pq_int))) (pd_int)) (pd_bin opMul (pd_int) (pd_q (pq_ix ixAny (pq_var 0) (pq_int))))) (pd_int)) (pd_int)) (pp_var 0))
      (ss_one (ds_ret (pd_bin opMod (pd_bin opFdiv (pd_bin opMod (pd_bin opMul (pd_q (pq_ix ixAny (pq_var 0) (pq_int))) (pd_q (pq_ix ixAny (pq_var 0) (pq_int)))) (pd_int)) (pd_int)) (pd_var 1)) (.cons (.rfl _) (.cons (.u _) (.cons (.rfl _) (.cons (.rfl _) .nil)))))))))), hm, F.kp, b⟩
theorem cal__law_shuffled (c__law_next : CalG P w K mg base 1 "_law_next" [(.r [(.l .s), .s, .s, .s]), .s] .s F__law_next) (z_list : mg "list" = none) (z_len : mg "len" = none) {f : Addr} {fd : FuncData} (F : L2.Fun K "_law_shuffled" "_law_shuffled" st__law_shuffled f fd) (hm : mg "_law_shuffled" = some (.ref f)) (b : Binds K fd ["_law_deck_here", "_law_items"] []) : CalG P w K mg base 2 "_law_shuffled" [(.r [(.l .s), .s, .s, .s]), .s] .s F__law_shuffled :=
  ⟨f, fd, ["_law_deck_here", "_law_items"], fnG_dl (sf := S__law_shuffled) (mr := [(.r [(.l .s), .s, .s, .s]), .u, .u, .u]) (po := [0]) (r := 2) F sc__law_shuffled rfl rfl (.own (by decide) (.stb rfl (.nil _ _))) (.inl rfl) (fun cdv A outer s H E _ _ _ =>
      ss_cons (ds_asg 2 (pd_t1 clList z_list bt_list (pd_var 1)))
      (ss_cons (ds_asg 3 (pd_lst (k := 0) .s (pl_nil)))
      (ss_cons (ds_pre [] (ds_wh fuel [(.r [(.l .s), .s, .s, .s]), .s, (.l .s), (.l .s)] (.cons (.rfl _) (.cons (.rfl _) (.cons (.rfl _) (.cons (.rfl _) .nil)))) (pb_qcmp opNe (pq_var 2) (pq_nil))
        (ss_post [] [1, 2, 3] (ss_one (ds_drop (pd_app 3 (pd_popG 2 (pd_callL (kk := 0) (j := 0) c__law_next (pl_lend 0 (pl_cons (pd_q (pq_b1 clLen z_len bt_len (pq_var 2))) (pl_nil))))))))) (.cons (.rfl _) (.cons (.rfl _) (.cons (.rfl _) (.cons (.rfl _) .nil))))) (.cons (.rfl _) (.cons (.rfl _) (.cons (.rfl _) (.cons (.rfl _) .nil)))))
      (ss_one (ds_ret (pd_frzVar 3) (.cons (.rfl _) (.cons (.u _) (.cons (.u _) (.cons (.u _) .nil))))))))), hm, F.kp, b⟩
theorem cal__law_planned (c__law_next : CalG P w K mg base 1 "_law_next" [(.r [(.l .s), .s, .s, .s]), .s] .s F__law_next) (c__law_shuffled : CalG P w K mg base 2 "_law_shuffled" [(.r [(.l .s), .s, .s, .s]), .s] .s F__law_shuffled) (z_range : mg "range" = none) (z_list : mg "list" = none) (z_zip : mg "zip" = none) (z_tuple : mg "tuple" = none) {f : Addr} {fd : FuncData} (F : L2.Fun K "_law_planned" "_law_planned" st__law_planned f fd) (hm : mg "_law_planned" = some (.ref f)) (b : Binds K fd ["_law_deck_here", "_law_most"] []) : CalG P w K mg base 3 "_law_planned" [(.r [(.l .s), .s, .s, .s]), .s] .s F__law_planned :=
  ⟨f, fd, ["_law_deck_here", "_law_most"], fnG_dl (sf := S__law_planned) (mr := [(.r [(.l .s), .s, .s, .s]), .u, .u, .u, .u, .u, .u, .u, .u, .u, .u, .u]) (po := [0]) (r := 10) F sc__law_planned rfl rfl (.own (by decide) (.stb rfl (.nil _ _))) (.inl rfl) (fun cdv A outer s H E _ _ _ =>
      ss_cons (ds_asg 2 (pd_ix ixAny (pd_frz (pd_lst (k := 5) .s (pl_cons (pd_int) (pl_cons (pd_int) (pl_cons (pd_int) (pl_cons (pd_int) (pl_cons (pd_int) (pl_nil)))))))) (pd_callL (kk := 0) (j := 0) c__law_next (pl_lend 0 (pl_cons (pd_int) (pl_nil))))))
      (ss_cons (ds_par3T 3 4 5 (pl_cons (pd_bin opAdd (pd_int) (pd_callL (kk := 0) (j := 0) c__law_next (pl_lend 0 (pl_cons (pd_var 2) (pl_nil))))) (pl_cons (pd_bin opAdd (pd_int) (pd_callL (kk := 0) (j := 0) c__law_next (pl_lend 0 (pl_cons (pd_var 2) (pl_nil))))) (pl_cons (pd_lst (k := 0) .s (pl_nil)) (pl_nil)))))
      (ss_cons (ds_for [(.r [(.l .s), .s, .s, .s]), .s, .s, .s, .s, (.l .s), .u, .u, .u, .u, .u, .u] (pi_fg [7, 8] (pi_r1 z_range (pd_bin opAdd (pd_int) (pd_callL (kk := 0) (j := 0) c__law_next (pl_lend 0 (pl_cons (pd_int) (pl_nil)))))) (.cons (.rfl _) (.cons (.rfl _) (.cons (.rfl _) (.cons (.rfl _) (.cons (.rfl _) (.cons (.rfl _) (.cons (.rfl _) (.cons (.rfl _) (.cons (.rfl _) (.cons (.rfl _) (.cons (.rfl _) (.cons (.rfl _) .nil))))))))))))) (.cons (.rfl _) (.cons (.rfl _) (.cons (.rfl _) (.cons (.rfl _) (.cons (.rfl _) (.cons (.rfl _) (.cons (.rfl _) (.cons (.rfl _) (.cons (.rfl _) (.cons (.rfl _) (.cons (.rfl _) (.cons (.rfl _) .nil)))))))))))) (pg_nm 6)
        (ss_post [7, 8] [1, 2, 3, 4, 5, 6, 7, 8, 9, 10, 11] (ss_le (ss_cons (ds_par 7 8 (pl_cons (pd_callL (kk := 0) (j := 0) c__law_shuffled (pl_lend 0 (pl_cons (pd_frz (pd_lsR z_list (pr_1 z_range (pd_var 3)))) (pl_nil)))) (pl_cons (pd_callL (kk := 0) (j := 0) c__law_shuffled (pl_lend 0 (pl_cons (pd_frz (pd_lsR z_list (pr_1 z_range (pd_var 4)))) (pl_nil)))) (pl_nil))))
      (ss_one (ds_for [(.r [(.l .s), .s, .s, .s]), .s, .s, .s, .s, (.l .s), .s, .s, .s, .u, .u, .u] (pi_fg [] (pi_zp z_zip (pd_var 7) (pd_var 8)) (.cons (.rfl _) (.cons (.rfl _) (.cons (.rfl _) (.cons (.rfl _) (.cons (.rfl _) (.cons (.rfl _) (.cons (.rfl _) (.cons (.rfl _) (.cons (.rfl _) (.cons (.rfl _) (.cons (.rfl _) (.cons (.rfl _) .nil))))))))))))) (.cons (.rfl _) (.cons (.rfl _) (.cons (.rfl _) (.cons (.rfl _) (.cons (.rfl _) (.cons (.rfl _) (.cons (.rfl _) (.cons (.rfl _) (.cons (.rfl _) (.cons (.rfl _) (.cons (.rfl _) (.cons (.rfl _) .nil)))))))))))) (pg_tp (k := 2) (pgs_cn (pg_nm 9) (pgs_cn (pg_nm 10) (pgs_nl))))
        (ss_post [] [1, 2, 3, 4, 5, 6, 7, 8, 9, 10, 11] (ss_le (ss_one (ds_if (pb_cmp opGt (pd_callL (kk := 0) (j := 0) c__law_next (pl_lend 0 (pl_cons (pd_int) (pl_nil)))) (pd_int))
        (ss_one (ds_drop (pd_app 5 (pd_tup (k := 3) (pl_cons (pd_var 9) (pl_cons (pd_var 10) (pl_cons (pd_var 6) (pl_nil))))))))
        (ss_nil))) (.cons (.rfl _) (.cons (.rfl _) (.cons (.rfl _) (.cons (.rfl _) (.cons (.rfl _) (.cons (.rfl _) (.cons (.rfl _) (.cons (.rfl _) (.cons (.rfl _) (.cons (.u _) (.cons (.u _) (.cons (.rfl _) .nil)))))))))))))) (.cons (.rfl _) (.cons (.rfl _) (.cons (.rfl _) (.cons (.rfl _) (.cons (.rfl _) (.cons (.rfl _) (.cons (.rfl _) (.cons (.rfl _) (.cons (.rfl _) (.cons (.rfl _) (.cons (.rfl _) (.cons (.rfl _) .nil))))))))))))))) (.cons (.rfl _) (.cons (.rfl _) (.cons (.rfl _) (.cons (.rfl _) (.cons (.rfl _) (.cons (.rfl _) (.cons (.u _) (.cons (.u _) (.cons (.u _) (.cons (.rfl _) (.cons (.rfl _) (.cons (.rfl _) .nil)))))))))))))) (.cons (.rfl _) (.cons (.rfl _) (.cons (.rfl _) (.cons (.rfl _) (.cons (.rfl _) (.cons (.rfl _) (.cons (.rfl _) (.cons (.rfl _) (.cons (.rfl _) (.cons (.rfl _) (.cons (.rfl _) (.cons (.rfl _) .nil)))))))))))))
      (ss_cons (ds_asg 5 (pd_sliceL (pd_callL (kk := 0) (j := 0) c__law_shuffled (pl_lend 0 (pl_cons (pd_frzVar 5) (pl_nil)))) (pp_none) (pp_some (pd_var 1))))
      (ss_cons (ds_asg 11 (pd_t1 clTuple z_tuple bt_tuple (pd_frz (pd_lc [("_law_teacher", 9), ("_law_group", 10), ("_law_hour", 6)] (pi_seq (pd_frzVar 5)) (pg_tp (k := 3) (pgs_cn (pg_nm 9) (pgs_cn (pg_nm 10) (pgs_cn (pg_nm 6) (pgs_nl))))) (pts_no) (pd_tup (k := 2) (pl_cons (pd_var 9) (pl_cons (pd_var 10) (pl_nil))))))))
      (ss_one (ds_ret (pd_frz (pd_lst (k := 2) .s (pl_cons (pd_tup (k := 3) (pl_cons (pd_var 3) (pl_cons (pd_var 4) (pl_cons (pd_var 11) (pl_nil))))) (pl_cons (pd_t1 clTuple z_tuple bt_tuple (pd_frz (pd_lc [("_law_teacher", 9), ("_law_group", 10), ("_law_hour", 6)] (pi_seq (pd_var 5)) (pg_tp (k := 3) (pgs_cn (pg_nm 9) (pgs_cn (pg_nm 10) (pgs_cn (pg_nm 6) (pgs_nl))))) (pts_no) (pd_var 6)))) (pl_nil))))) (.cons (.rfl _) (.cons (.u _) (.cons (.u _) (.cons (.u _) (.cons (.u _) (.cons (.u _) (.cons (.rfl _) (.cons (.rfl _) (.cons (.rfl _) (.cons (.rfl _) (.cons (.rfl _) (.cons (.u _) .nil))))))))))))))))))), hm, F.kp, b⟩
theorem cal__law_numbers (z_sorted : mg "sorted" = none) (z_set : mg "set" = none) (z_len : mg "len" = none) {f : Addr} {fd : FuncData} (F : L2.Fun K "_law_numbers" "_law_numbers" st__law_numbers f fd) (hm : mg "_law_numbers" = some (.ref f)) (b : Binds K fd ["_law_schedule"] []) : CalG P w K mg base 1 "_law_numbers" [.s] .s F__law_numbers :=
  ⟨f, fd, ["_law_schedule"], fnG_dl (sf := S__law_numbers) (mr := [.u, .u, .u]) (po := []) (r := 2) F sc__law_numbers rfl rfl (.stb rfl (.nil _ _)) (.inl rfl) (fun cdv A outer s H E _ _ _ =>
      ss_one (ds_ret (pd_frz (pd_lc [("_law_hour", 1)] (pi_seq (pd_frz (pd_sortSet z_sorted bt_sorted z_set bt_set (pd_var 0)))) (pg_nm 1) (pts_no) (pd_b1 clLen z_len bt_len (pd_frz (pd_lc [("_law_one_here", 2)] (pi_seq (pd_var 0)) (pg_nm 2) (pts_if (pb_cmp opEq (pd_var 2) (pd_var 1))) (pd_var 2)))))) (.cons (.u _) (.cons (.rfl _) (.cons (.rfl _) .nil))))), hm, F.kp, b⟩
theorem cal__law_one (c__law_next : CalG P w K mg base 1 "_law_next" [(.r [(.l .s), .s, .s, .s]), .s] .s F__law_next) (z_len : mg "len" = none) {f : Addr} {fd : FuncData} (F : L2.Fun K "_law_one" "_law_one" st__law_one f fd) (hm : mg "_law_one" = some (.ref f)) (b : Binds K fd ["_law_deck_here", "_law_items"] []) : CalG P w K mg base 2 "_law_one" [(.r [(.l .s), .s, .s, .s]), .s] .s F__law_one :=
  ⟨f, fd, ["_law_deck_here", "_law_items"], fnG_dl (sf := S__law_one) (mr := [(.r [(.l .s), .s, .s, .s]), .u]) (po := [0]) (r := 0) F sc__law_one rfl rfl (.own (by decide) (.stb rfl (.nil _ _))) (.inl rfl) (fun cdv A outer s H E _ _ _ =>
      ss_one (ds_ret (pd_ix ixAny (pd_var 1) (pd_callL (kk := 0) (j := 0) c__law_next (pl_lend 0 (pl_cons (pd_b1 clLen z_len bt_len (pd_var 1)) (pl_nil))))) (.cons (.rfl _) (.cons (.u _) .nil)))), hm, F.kp, b⟩
theorem cal__law_rooms (c__law_next : CalG P w K mg base 1 "_law_next" [(.r [(.l .s), .s, .s, .s]), .s] .s F__law_next) {f : Addr} {fd : FuncData} (F : L2.Fun K "_law_rooms" "_law_rooms" st__law_rooms f fd) (hm : mg "_law_rooms" = some (.ref f)) (b : Binds K fd ["_law_deck_here"] []) : CalG P w K mg base 2 "_law_rooms" [(.r [(.l .s), .s, .s, .s])] .s F__law_rooms :=
  ⟨f, fd, ["_law_deck_here"], fnG_dl (sf := S__law_rooms) (mr := [(.r [(.l .s), .s, .s, .s])]) (po := [0]) (r := 0) F sc__law_rooms rfl rfl (.own (by decide) (.nil _ _)) (.inl rfl) (fun cdv A outer s H E _ _ _ =>
      ss_one (ds_ret (pd_ix ixAny (pd_frz (pd_lst (k := 6) .s (pl_cons (pd_int) (pl_cons (pd_int) (pl_cons (pd_int) (pl_cons (pd_bin opAdd (pd_int) (pd_callL (kk := 0) (j := 0) c__law_next (pl_lend 0 (pl_cons (pd_int) (pl_nil))))) (pl_cons (pd_bin opPow (pd_int) (pd_int)) (pl_cons (pd_bin opPow (pd_int) (pd_int)) (pl_nil))))))))) (pd_callL (kk := 0) (j := 0) c__law_next (pl_lend 0 (pl_cons (pd_int) (pl_nil))))) (.cons (.rfl _) .nil))), hm, F.kp, b⟩
theorem cal__law_are_rivals  {f : Addr} {fd : FuncData} (F : L2.Fun K "_law_are_rivals" "_law_are_rivals" st__law_are_rivals f fd) (hm : mg "_law_are_rivals" = some (.ref f)) (b : Binds K fd ["_law_roster", "_law_one_here", "_law_other"] []) : CalG P w K mg base 1 "_law_are_rivals" [.s, .s, .s] .s F__law_are_rivals :=
  ⟨f, fd, ["_law_roster", "_law_one_here", "_law_other"], fnG_dl (sf := S__law_are_rivals) (mr := [.u, .u, .u, .u, .u]) (po := []) (r := 2) F sc__law_are_rivals rfl rfl (.stb rfl (.stb rfl (.stb rfl (.nil _ _)))) (.inl rfl) (fun cdv A outer s H E _ _ _ =>
      ss_cons (ds_par 3 4 (pl_cons (pd_ix ixAny (pd_ix ixAny (pd_var 0) (pd_int)) (pd_var 1)) (pl_cons (pd_ix ixAny (pd_ix ixAny (pd_var 0) (pd_int)) (pd_var 2)) (pl_nil))))
      (ss_one (ds_ret (pd_and (pd_cmp opNe (pd_var 1) (pd_var 2)) (pd_and1 (pd_or (pd_cmp opEq (pd_ix ixAny (pd_var 3) (pd_int)) (pd_ix ixAny (pd_var 4) (pd_int))) (pd_or1 (pd_cmp opEq (pd_ix ixAny (pd_var 3) (pd_int)) (pd_ix ixAny (pd_var 4) (pd_int))))))) (.cons (.u _) (.cons (.u _) (.cons (.u _) (.cons (.u _) (.cons (.u _) .nil)))))))), hm, F.kp, b⟩
theorem cal__law_compact (c__law_are_rivals : CalG P w K mg base 1 "_law_are_rivals" [.s, .s, .s] .s F__law_are_rivals) (z_range : mg "range" = none) (z_len : mg "len" = none) (z_min : mg "min" = none) {f : Addr} {fd : FuncData} (F : L2.Fun K "_law_compact" "_law_compact" st__law_compact f fd) (hm : mg "_law_compact" = some (.ref f)) (b : Binds K fd ["_law_deck_here", "_law_roster"] []) : CalG P w K mg base 2 "_law_compact" [(.r [(.l .s), .s, .s, .s]), .s] .s F__law_compact :=
  ⟨f, fd, ["_law_deck_here", "_law_roster"], fnG_dl (sf := S__law_compact) (mr := [(.r [(.l .s), .s, .s, .s]), .u, .u, .u, .u, .u, .u]) (po := [0]) (r := 5) F sc__law_compact rfl rfl (.own (by decide) (.stb rfl (.nil _ _))) (.inl rfl) (fun cdv A outer s H E _ _ _ =>
      ss_cons (ds_asg 2 (pd_tup (k := 0) (pl_nil)))
      (ss_cons (ds_for [(.r [(.l .s), .s, .s, .s]), .s, .s, .u, .u, .u, .u] (pi_fg [3, 4] (pi_r1 z_range (pd_b1 clLen z_len bt_len (pd_ix ixAny (pd_var 1) (pd_int)))) (.cons (.rfl _) (.cons (.rfl _) (.cons (.rfl _) (.cons (.rfl _) (.cons (.rfl _) (.cons (.rfl _) (.cons (.rfl _) .nil)))))))) (.cons (.rfl _) (.cons (.rfl _) (.cons (.rfl _) (.cons (.rfl _) (.cons (.rfl _) (.cons (.rfl _) (.cons (.rfl _) .nil))))))) (pg_nm 3)
        (ss_post [3, 4] [1, 2, 3, 4, 5, 6] (ss_le (ss_cons (ds_asg 4 (pd_frz (pd_lc [("_law_k", 5)] (pi_r1 z_range (pd_var 3)) (pg_nm 5) (pts_if (pb_of (pd_call c__law_are_rivals (pl_cons (pd_var 1) (pl_cons (pd_var 5) (pl_cons (pd_var 3) (pl_nil))))))) (pd_ix ixAny (pd_var 2) (pd_var 5)))))
      (ss_one (ds_asg 2 (pd_bin opAdd (pd_var 2) (pd_tup (k := 1) (pl_cons (pd_b1 clMin z_min bt_min (pd_frz (pd_lc [("_law_hour", 6)] (pi_r1 z_range (pd_int)) (pg_nm 6) (pts_if (pb_cmp opNotIn (pd_var 6) (pd_var 4))) (pd_var 6)))) (pl_nil))))))) (.cons (.rfl _) (.cons (.rfl _) (.cons (.rfl _) (.cons (.u _) (.cons (.u _) (.cons (.rfl _) (.cons (.rfl _) .nil))))))))) (.cons (.rfl _) (.cons (.rfl _) (.cons (.rfl _) (.cons (.rfl _) (.cons (.rfl _) (.cons (.rfl _) (.cons (.rfl _) .nil))))))))
      (ss_one (ds_ret (pd_var 2) (.cons (.rfl _) (.cons (.u _) (.cons (.u _) (.cons (.rfl _) (.cons (.rfl _) (.cons (.rfl _) (.cons (.rfl _) .nil))))))))))), hm, F.kp, b⟩
theorem cal__law_spread (c__law_next : CalG P w K mg base 1 "_law_next" [(.r [(.l .s), .s, .s, .s]), .s] .s F__law_next) (c__law_shuffled : CalG P w K mg base 2 "_law_shuffled" [(.r [(.l .s), .s, .s, .s]), .s] .s F__law_shuffled) (z_range : mg "range" = none) (z_tuple : mg "tuple" = none) {f : Addr} {fd : FuncData} (F : L2.Fun K "_law_spread" "_law_spread" st__law_spread f fd) (hm : mg "_law_spread" = some (.ref f)) (b : Binds K fd ["_law_deck_here", "_law_schedule"] []) : CalG P w K mg base 3 "_law_spread" [(.r [(.l .s), .s, .s, .s]), .s] .s F__law_spread :=
  ⟨f, fd, ["_law_deck_here", "_law_schedule"], fnG_dl (sf := S__law_spread) (mr := [(.r [(.l .s), .s, .s, .s]), .u, .u, .u, .u, .u]) (po := [0]) (r := 4) F sc__law_spread rfl rfl (.own (by decide) (.stb rfl (.nil _ _))) (.inl rfl) (fun cdv A outer s H E _ _ _ =>
      ss_cons (ds_asg 2 (pd_ix ixAny (pd_frz (pd_lst (k := 4) .s (pl_cons (pd_int) (pl_cons (pd_int) (pl_cons (pd_int) (pl_cons (pd_int) (pl_nil))))))) (pd_callL (kk := 0) (j := 0) c__law_next (pl_lend 0 (pl_cons (pd_int) (pl_nil))))))
      (ss_cons (ds_asg 3 (pd_callL (kk := 0) (j := 0) c__law_shuffled (pl_lend 0 (pl_cons (pd_frz (pd_lc [("_law_k", 4)] (pi_r1 z_range (pd_int)) (pg_nm 4) (pts_no) (pd_bin opMul (pd_var 4) (pd_var 2)))) (pl_nil)))))
      (ss_one (ds_ret (pd_t1 clTuple z_tuple bt_tuple (pd_frz (pd_lc [("_law_hour", 5)] (pi_seq (pd_var 1)) (pg_nm 5) (pts_no) (pd_ix ixAny (pd_var 3) (pd_var 5))))) (.cons (.rfl _) (.cons (.u _) (.cons (.u _) (.cons (.u _) (.cons (.rfl _) (.cons (.rfl _) .nil)))))))))), hm, F.kp, b⟩
theorem cal__law_reasons (z_zip : mg "zip" = none) (z_range : mg "range" = none) {f : Addr} {fd : FuncData} (F : L2.Fun K "_law_reasons" "_law_reasons" st__law_reasons f fd) (hm : mg "_law_reasons" = some (.ref f)) (b : Binds K fd ["_law_roster"] []) : CalG P w K mg base 1 "_law_reasons" [.s] .s F__law_reasons :=
  ⟨f, fd, ["_law_roster"], fnG_dl (sf := S__law_reasons) (mr := [.u, .u, .u, .u, .u]) (po := []) (r := 4) F sc__law_reasons rfl rfl (.stb rfl (.nil _ _)) (.inl rfl) (fun cdv A outer s H E _ _ _ =>
      ss_cons (ds_asg 1 (pd_lst (k := 2) .s (pl_cons (pd_tup (k := 1) (pl_cons (pd_str) (pl_nil))) (pl_cons (pd_tup (k := 1) (pl_cons (pd_str) (pl_nil))) (pl_nil)))))
      (ss_cons (ds_for [.s, (.l .s), .u, .u, .u] (pi_fg [2, 3] (pi_zp z_zip (pd_tup (k := 2) (pl_cons (pd_str) (pl_cons (pd_str) (pl_nil)))) (pd_slice (pd_var 0) (pp_none) (pp_some (pd_int)))) (.cons (.rfl _) (.cons (.rfl _) (.cons (.rfl _) (.cons (.rfl _) (.cons (.rfl _) .nil)))))) (.cons (.rfl _) (.cons (.rfl _) (.cons (.rfl _) (.cons (.rfl _) (.cons (.rfl _) .nil))))) (pg_tp (k := 2) (pgs_cn (pg_nm 2) (pgs_cn (pg_nm 3) (pgs_nl))))
        (ss_post [2, 3] [0, 1, 2, 3, 4] (ss_le (ss_one (ds_drop (pd_ext 1 (pd_lc [("_law_person", 4)] (pi_r1 z_range (pd_bin opAdd (pd_var 3) (pd_int))) (pg_nm 4) (pts_no) (pd_tup (k := 2) (pl_cons (pd_var 2) (pl_cons (pd_var 4) (pl_nil)))))))) (.cons (.rfl _) (.cons (.rfl _) (.cons (.u _) (.cons (.u _) (.cons (.rfl _) .nil))))))) (.cons (.rfl _) (.cons (.rfl _) (.cons (.rfl _) (.cons (.rfl _) (.cons (.rfl _) .nil))))))
      (ss_one (ds_ret (pd_frzVar 1) (.cons (.u _) (.cons (.u _) (.cons (.rfl _) (.cons (.rfl _) (.cons (.rfl _) .nil))))))))), hm, F.kp, b⟩
theorem cal__law_odd (c__law_next : CalG P w K mg base 1 "_law_next" [(.r [(.l .s), .s, .s, .s]), .s] .s F__law_next) {f : Addr} {fd : FuncData} (F : L2.Fun K "_law_odd" "_law_odd" st__law_odd f fd) (hm : mg "_law_odd" = some (.ref f)) (b : Binds K fd ["_law_deck_here"] []) : CalG P w K mg base 2 "_law_odd" [(.r [(.l .s), .s, .s, .s])] .s F__law_odd :=
  ⟨f, fd, ["_law_deck_here"], fnG_dl (sf := S__law_odd) (mr := [(.r [(.l .s), .s, .s, .s]), .u]) (po := [0]) (r := 1) F sc__law_odd rfl rfl (.own (by decide) (.nil _ _)) (.inl rfl) (fun cdv A outer s H E _ _ _ =>
      ss_cons (ds_asg 1 (pd_frz (pd_lst (k := 16) .s (pl_cons (pd_none) (pl_cons (pd_bool) (pl_cons (pd_bool) (pl_cons (pd_int) (pl_cons (pd_int) (pl_cons (pd_neg (pd_int)) (pl_cons (pd_int) (pl_cons (pd_bin opAdd (pd_bin opPow (pd_int) (pd_int)) (pd_int)) (pl_cons (pd_bin opPow (pd_int) (pd_int)) (pl_cons (pd_str) (pl_cons (pd_str) (pl_cons (pd_str) (pl_cons (pd_str) (pl_cons (pd_str) (pl_cons (pd_tup (k := 0) (pl_nil)) (pl_cons (pd_tup (k := 1) (pl_cons (pd_int) (pl_nil))) (pl_nil))))))))))))))))))))
      (ss_cons (ds_asg 1 (pd_bin opAdd (pd_var 1) (pd_frz (pd_lst (k := 9) .s (pl_cons (pd_frz (pd_lst (k := 0) .s (pl_nil))) (pl_cons (pd_dic0) (pl_cons (pd_frz (pd_lst (k := 1) .s (pl_cons (pd_int) (pl_nil)))) (pl_cons (pd_dic1) (pl_cons (pd_tup (k := 1) (pl_cons (pd_bool) (pl_nil))) (pl_cons (pd_tup (k := 2) (pl_cons (pd_tup (k := 0) (pl_nil)) (pl_cons (pd_tup (k := 0) (pl_nil)) (pl_nil)))) (pl_cons (pd_tup (k := 2) (pl_cons (pd_tup (k := 0) (pl_nil)) (pl_cons (pd_tup (k := 1) (pl_cons (pd_str) (pl_nil))) (pl_nil)))) (pl_cons (pd_tup (k := 1) (pl_cons (pd_tup (k := 0) (pl_nil)) (pl_nil))) (pl_cons (pd_tup (k := 1) (pl_cons (pd_str) (pl_nil))) (pl_nil))))))))))))))
      (ss_one (ds_ret (pd_ix ixAny (pd_var 1) (pd_callL (kk := 0) (j := 0) c__law_next (pl_lend 0 (pl_cons (pd_int) (pl_nil))))) (.cons (.rfl _) (.cons (.u _) .nil)))))), hm, F.kp, b⟩
theorem cal__law_changed (c__law_next : CalG P w K mg base 1 "_law_next" [(.r [(.l .s), .s, .s, .s]), .s] .s F__law_next) (c__law_odd : CalG P w K mg base 2 "_law_odd" [(.r [(.l .s), .s, .s, .s])] .s F__law_odd) (z_isinstance : mg "isinstance" = none) (z_tuple : mg "tuple" = none) (z_len : mg "len" = none) (z_list : mg "list" = none) (z_int : mg "int" = none) (z_bool : mg "bool" = none) (z_str : mg "str" = none) {f : Addr} {fd : FuncData} (F : L2.Fun K "_law_changed" "_law_changed" st__law_changed f fd) (hm : mg "_law_changed" = some (.ref f)) (b : Binds K fd ["_law_deck_here", "_law_value"] []) : ∀ n : Nat, CalG P w K mg base (2 + n) "_law_changed" [(.r [(.l .s), .s, .s, .s]), .s] .s (F__law_changed n)
  | 0 => ⟨f, fd, ["_law_deck_here", "_law_value"], fnG_none, hm, F.kp, b⟩
  | n + 1 => by
    have c__law_changed := cal__law_changed c__law_next c__law_odd z_isinstance z_tuple z_len z_list z_int z_bool z_str F hm b n
    exact ⟨f, fd, ["_law_deck_here", "_law_value"], fnG_dl (sf := S__law_changed (F__law_changed n)) (mr := [(.r [(.l .s), .s, .s, .s]), .u, .u, .u]) (po := [0]) (r := 2) F sc__law_changed rfl rfl (.own (by decide) (.stb rfl (.nil _ _))) (.inl rfl) (fun cdv A outer s H E _ _ _ =>
      ss_cons (ds_if (pb_w (pbw_and (pb_of (pd_isa "tuple" z_isinstance z_tuple bt_tuple (pd_var 1))) (pbw_and (pb_cmp opNe (pd_var 1) (pd_tup (k := 0) (pl_nil))) (pbw_and1 (pb_cmp opGt (pd_callL (kk := 0) (j := 0) c__law_next (pl_lend 0 (pl_cons (pd_int) (pl_nil))) (hk := by first | exact Nat.le_refl _ | (simp only [Nat.add_eq]; omega))) (pd_int))))))
        (ss_cons (ds_asg 2 (pd_callL (kk := 0) (j := 0) c__law_next (pl_lend 0 (pl_cons (pd_b1 clLen z_len bt_len (pd_var 1)) (pl_nil))) (hk := by first | exact Nat.le_refl _ | (simp only [Nat.add_eq]; omega))))
      (ss_one (ds_ret (pd_bin opAdd (pd_bin opAdd (pd_slice (pd_var 1) (pp_none) (pp_some (pd_var 2))) (pd_tup (k := 1) (pl_cons (pd_callL (kk := 0) (j := 0) c__law_changed (pl_lend 0 (pl_cons (pd_ix ixAny (pd_var 1) (pd_var 2)) (pl_nil))) (hk := by first | exact Nat.le_refl _ | (simp only [Nat.add_eq]; omega))) (pl_nil)))) (pd_slice (pd_var 1) (pp_some (pd_bin opAdd (pd_var 2) (pd_int))) (pp_none))) (.cons (.rfl _) (.cons (.u _) (.cons (.u _) (.cons (.rfl _) .nil)))))))
        (ss_nil))
      (ss_cons (ds_asg 3 (pd_callL (kk := 0) (j := 0) c__law_next (pl_lend 0 (pl_cons (pd_int) (pl_nil))) (hk := by first | exact Nat.le_refl _ | (simp only [Nat.add_eq]; omega))))
      (ss_cons (ds_if (pb_w (pbw_and (pb_of (pd_isa "tuple" z_isinstance z_tuple bt_tuple (pd_var 1))) (pbw_and1 (pb_cmp opLt (pd_var 3) (pd_int)))))
        (ss_one (ds_ret (pd_ix ixAny (pd_frz (pd_lst (k := 4) .s (pl_cons (pd_slice (pd_var 1) (pp_none) (pp_some (pd_neg (pd_int)))) (pl_cons (pd_bin opAdd (pd_var 1) (pd_slice (pd_var 1) (pp_some (pd_neg (pd_int))) (pp_none))) (pl_cons (pd_frz (pd_t1 clList z_list bt_list (pd_var 1))) (pl_cons (pd_back (pd_var 1)) (pl_nil))))))) (pd_var 3)) (.cons (.rfl _) (.cons (.u _) (.cons (.rfl _) (.cons (.u _) .nil))))))
        (ss_nil))
      (ss_cons (ds_if (pb_w (pbw_and (pb_of (pd_isa "int" z_isinstance z_int bt_int (pd_var 1))) (pbw_and (pb_not (pb_of (pd_isa "bool" z_isinstance z_bool bt_bool (pd_var 1)))) (pbw_and1 (pb_cmp opLt (pd_var 3) (pd_int))))))
        (ss_one (ds_ret (pd_ix ixAny (pd_frz (pd_lst (k := 4) .s (pl_cons (pd_bin opAdd (pd_var 1) (pd_int)) (pl_cons (pd_bin opSub (pd_var 1) (pd_int)) (pl_cons (pd_cmp opEq (pd_var 1) (pd_int)) (pl_cons (pd_t1 clStr z_str bt_str (pd_var 1)) (pl_nil))))))) (pd_var 3)) (.cons (.rfl _) (.cons (.u _) (.cons (.rfl _) (.cons (.u _) .nil))))))
        (ss_nil))
      (ss_one (ds_ret (pd_callL (kk := 0) (j := 0) c__law_odd (pl_lend 0 (pl_nil)) (hk := by first | exact Nat.le_refl _ | (simp only [Nat.add_eq]; omega))) (.cons (.rfl _) (.cons (.u _) (.cons (.rfl _) (.cons (.u _) .nil)))))))))), hm, F.kp, b⟩
theorem cal__law_whole (z_isinstance : mg "isinstance" = none) (z_int : mg "int" = none) (z_bool : mg "bool" = none) {f : Addr} {fd : FuncData} (F : L2.Fun K "_law_whole" "_law_whole" st__law_whole f fd) (hm : mg "_law_whole" = some (.ref f)) (b : Binds K fd ["_law_value"] []) : CalG P w K mg base 1 "_law_whole" [.s] .s F__law_whole :=
  ⟨f, fd, ["_law_value"], fnG_dl (sf := S__law_whole) (mr := [.u]) (po := []) (r := 0) F sc__law_whole rfl rfl (.stb rfl (.nil _ _)) (.inl rfl) (fun cdv A outer s H E _ _ _ =>
      ss_one (ds_ret (pd_and (pd_isa "int" z_isinstance z_int bt_int (pd_var 0)) (pd_and1 (pd_notV (pd_isa "bool" z_isinstance z_bool bt_bool (pd_var 0))))) (.cons (.u _) .nil))), hm, F.kp, b⟩
theorem cal__law_is_schedule (c__law_whole : CalG P w K mg base 1 "_law_whole" [.s] .s F__law_whole) (c__law_are_rivals : CalG P w K mg base 1 "_law_are_rivals" [.s, .s, .s] .s F__law_are_rivals) (z_isinstance : mg "isinstance" = none) (z_tuple : mg "tuple" = none) (z_len : mg "len" = none) (z_range : mg "range" = none) {f : Addr} {fd : FuncData} (F : L2.Fun K "_law_is_schedule" "_law_is_schedule" st__law_is_schedule f fd) (hm : mg "_law_is_schedule" = some (.ref f)) (b : Binds K fd ["_law_roster", "_law_value"] []) : CalG P w K mg base 2 "_law_is_schedule" [.s, .s] .s F__law_is_schedule :=
  ⟨f, fd, ["_law_roster", "_law_value"], fnG_dl (sf := S__law_is_schedule) (mr := [.u, .u, .u, .u, .u]) (po := []) (r := 3) F sc__law_is_schedule rfl rfl (.stb rfl (.stb rfl (.nil _ _))) (.inl rfl) (fun cdv A outer s H E _ _ _ =>
      ss_cons (ds_if (pb_w (pbw_or (pb_not (pb_of (pd_isa "tuple" z_isinstance z_tuple bt_tuple (pd_var 1)))) (pbw_or1 (pb_cmp opNe (pd_b1 clLen z_len bt_len (pd_var 1)) (pd_b1 clLen z_len bt_len (pd_ix ixAny (pd_var 0) (pd_int)))))))
        (ss_one (ds_ret (pd_bool) (.cons (.u _) (.cons (.u _) (.cons (.rfl _) (.cons (.rfl _) (.cons (.rfl _) .nil)))))))
        (ss_nil))
      (ss_cons (ds_if (pb_cmp opNe (pd_frz (pd_lc [("_law_hour", 3)] (pi_seq (pd_var 1)) (pg_nm 3) (pts_if (pb_w (pbw_or (pb_not (pb_of (pd_call c__law_whole (pl_cons (pd_var 3) (pl_nil))))) (pbw_or1 (pb_not (pb_chain opLe opLe (pd_int) (pd_var 3) (pd_bin opPow (pd_int) (pd_int)))))))) (pd_var 3))) (pd_frz (pd_lst (k := 0) .s (pl_nil))))
        (ss_one (ds_ret (pd_bool) (.cons (.u _) (.cons (.u _) (.cons (.rfl _) (.cons (.rfl _) (.cons (.rfl _) .nil)))))))
        (ss_nil))
      (ss_cons (ds_for [.s, .s, .u, .u, .u] (pi_fg [2] (pi_r1 z_range (pd_b1 clLen z_len bt_len (pd_var 1))) (.cons (.rfl _) (.cons (.rfl _) (.cons (.rfl _) (.cons (.rfl _) (.cons (.rfl _) .nil)))))) (.cons (.rfl _) (.cons (.rfl _) (.cons (.rfl _) (.cons (.rfl _) (.cons (.rfl _) .nil))))) (pg_nm 2)
        (ss_post [2] [0, 1, 2, 3, 4] (ss_le (ss_one (ds_if (pb_cmp opNe (pd_frz (pd_lc [("_law_k", 4)] (pi_r1 z_range (pd_var 2)) (pg_nm 4) (pts_if (pb_w (pbw_and (pb_cmp opEq (pd_ix ixAny (pd_var 1) (pd_var 4)) (pd_ix ixAny (pd_var 1) (pd_var 2))) (pbw_and1 (pb_of (pd_call c__law_are_rivals (pl_cons (pd_var 0) (pl_cons (pd_var 4) (pl_cons (pd_var 2) (pl_nil)))))))))) (pd_var 4))) (pd_frz (pd_lst (k := 0) .s (pl_nil))))
        (ss_one (ds_ret (pd_bool) (.cons (.u _) (.cons (.u _) (.cons (.u _) (.cons (.rfl _) (.cons (.rfl _) .nil)))))))
        (ss_nil))) (.cons (.rfl _) (.cons (.rfl _) (.cons (.u _) (.cons (.rfl _) (.cons (.rfl _) .nil))))))) (.cons (.rfl _) (.cons (.rfl _) (.cons (.rfl _) (.cons (.rfl _) (.cons (.rfl _) .nil))))))
      (ss_one (ds_ret (pd_bool) (.cons (.u _) (.cons (.u _) (.cons (.rfl _) (.cons (.rfl _) (.cons (.rfl _) .nil)))))))))), hm, F.kp, b⟩
theorem cal__law_degrees (z_range : mg "range" = none) (z_len : mg "len" = none) {f : Addr} {fd : FuncData} (F : L2.Fun K "_law_degrees" "_law_degrees" st__law_degrees f fd) (hm : mg "_law_degrees" = some (.ref f)) (b : Binds K fd ["_law_roster"] []) : CalG P w K mg base 1 "_law_degrees" [.s] .s F__law_degrees :=
  ⟨f, fd, ["_law_roster"], fnG_dl (sf := S__law_degrees) (mr := [.u, .u, .u, .u, .u]) (po := []) (r := 4) F sc__law_degrees rfl rfl (.stb rfl (.nil _ _)) (.inl rfl) (fun cdv A outer s H E _ _ _ =>
      ss_cons (ds_asg 1 (pd_lst (k := 0) .s (pl_nil)))
      (ss_cons (ds_for [.s, (.l .s), .u, .u, .u] (pi_fg [2] (pi_r1 z_range (pd_int)) (.cons (.rfl _) (.cons (.rfl _) (.cons (.rfl _) (.cons (.rfl _) (.cons (.rfl _) .nil)))))) (.cons (.rfl _) (.cons (.rfl _) (.cons (.rfl _) (.cons (.rfl _) (.cons (.rfl _) .nil))))) (pg_nm 2)
        (ss_post [2] [0, 1, 2, 3, 4] (ss_le (ss_one (ds_drop (pd_app 1 (pd_frz (pd_lc [("_law_person", 3)] (pi_r1 z_range (pd_ix ixAny (pd_var 0) (pd_var 2))) (pg_nm 3) (pts_no) (pd_b1 clLen z_len bt_len (pd_frz (pd_lc [("_law_row", 4)] (pi_seq (pd_ix ixAny (pd_var 0) (pd_int))) (pg_nm 4) (pts_if (pb_cmp opEq (pd_ix ixAny (pd_var 4) (pd_var 2)) (pd_var 3))) (pd_var 4))))))))) (.cons (.rfl _) (.cons (.rfl _) (.cons (.u _) (.cons (.rfl _) (.cons (.rfl _) .nil))))))) (.cons (.rfl _) (.cons (.rfl _) (.cons (.rfl _) (.cons (.rfl _) (.cons (.rfl _) .nil))))))
      (ss_one (ds_ret (pd_frzVar 1) (.cons (.u _) (.cons (.u _) (.cons (.rfl _) (.cons (.rfl _) (.cons (.rfl _) .nil))))))))), hm, F.kp, b⟩
theorem cal__law_is_reason (c__law_whole : CalG P w K mg base 1 "_law_whole" [.s] .s F__law_whole) (c__law_degrees : CalG P w K mg base 1 "_law_degrees" [.s] .s F__law_degrees) (z_isinstance : mg "isinstance" = none) (z_tuple : mg "tuple" = none) (z_str : mg "str" = none) (z_list : mg "list" = none) (z_len : mg "len" = none) {f : Addr} {fd : FuncData} (F : L2.Fun K "_law_is_reason" "_law_is_reason" st__law_is_reason f fd) (hm : mg "_law_is_reason" = some (.ref f)) (b : Binds K fd ["_law_roster", "_law_rooms_here", "_law_hours", "_law_value"] []) : CalG P w K mg base 2 "_law_is_reason" [.s, .s, .s, .s] .s F__law_is_reason :=
  ⟨f, fd, ["_law_roster", "_law_rooms_here", "_law_hours", "_law_value"], fnG_dl (sf := S__law_is_reason) (mr := [.u, .u, .u, .u, .u, .u]) (po := []) (r := 2) F sc__law_is_reason rfl rfl (.stb rfl (.stb rfl (.stb rfl (.stb rfl (.nil _ _))))) (.inl rfl) (fun cdv A outer s H E _ _ _ =>
      ss_cons (ds_if (pb_w (pbw_or (pb_not (pb_of (pd_isa "tuple" z_isinstance z_tuple bt_tuple (pd_var 3)))) (pbw_or1 (pb_cmp opNeL (pd_frz (pd_lc [("_law_part", 5)] (pi_seq (pd_var 3)) (pg_nm 5) (pts_if (pb_of (pd_isa "str" z_isinstance z_str bt_str (pd_var 5)))) (pd_var 5))) (pd_frz (pd_t1 clList z_list bt_list (pd_slice (pd_var 3) (pp_none) (pp_some (pd_int)))))))))
        (ss_one (ds_ret (pd_bool) (.cons (.u _) (.cons (.u _) (.cons (.u _) (.cons (.u _) (.cons (.rfl _) (.cons (.rfl _) .nil))))))))
        (ss_nil))
      (ss_cons (ds_if (pb_cmp opEqT (pd_var 3) (pd_tup (k := 1) (pl_cons (pd_str) (pl_nil))))
        (ss_one (ds_ret (pd_cmp opLt (pd_bin opMul (pd_bin opSub (pd_var 2) (pd_int)) (pd_var 1)) (pd_b1 clLen z_len bt_len (pd_ix ixAny (pd_var 0) (pd_int)))) (.cons (.u _) (.cons (.u _) (.cons (.u _) (.cons (.u _) (.cons (.rfl _) (.cons (.rfl _) .nil))))))))
        (ss_nil))
      (ss_cons (ds_if (pb_w (pbw_or (pb_cmp opNe (pd_b1 clLen z_len bt_len (pd_var 3)) (pd_int)) (pbw_or (pb_cmp opNotIn (pd_ix ixAny (pd_var 3) (pd_int)) (pd_frz (pd_lst (k := 2) .s (pl_cons (pd_str) (pl_cons (pd_str) (pl_nil)))))) (pbw_or1 (pb_not (pb_of (pd_call c__law_whole (pl_cons (pd_ix ixAny (pd_var 3) (pd_int)) (pl_nil)))))))))
        (ss_one (ds_ret (pd_bool) (.cons (.u _) (.cons (.u _) (.cons (.u _) (.cons (.u _) (.cons (.rfl _) (.cons (.rfl _) .nil))))))))
        (ss_nil))
      (ss_cons (ds_asg 4 (pd_ix ixAny (pd_call c__law_degrees (pl_cons (pd_var 0) (pl_nil))) (pd_index (pd_frz (pd_lst (k := 2) .s (pl_cons (pd_str) (pl_cons (pd_str) (pl_nil))))) (pd_ix ixAny (pd_var 3) (pd_int)))))
      (ss_one (ds_ret (pd_and (pd_chain opLe opLt (pd_int) (pd_ix ixAny (pd_var 3) (pd_int)) (pd_b1 clLen z_len bt_len (pd_var 4))) (pd_and1 (pd_cmp opEq (pd_ix ixAny (pd_var 4) (pd_ix ixAny (pd_var 3) (pd_int))) (pd_var 2)))) (.cons (.u _) (.cons (.u _) (.cons (.u _) (.cons (.u _) (.cons (.u _) (.cons (.rfl _) .nil)))))))))))), hm, F.kp, b⟩
theorem cal__law_due (c__law_is_schedule : CalG P w K mg base 2 "_law_is_schedule" [.s, .s] .s F__law_is_schedule) (c__law_numbers : CalG P w K mg base 1 "_law_numbers" [.s] .s F__law_numbers) (c__law_is_reason : CalG P w K mg base 2 "_law_is_reason" [.s, .s, .s, .s] .s F__law_is_reason) (z_repr : mg "repr" = none) (z_isinstance : mg "isinstance" = none) (z_tuple : mg "tuple" = none) (z_len : mg "len" = none) (z_max : mg "max" = none) {f : Addr} {fd : FuncData} (F : L2.Fun K "_law_due" "_law_due" st__law_due f fd) (hm : mg "_law_due" = some (.ref f)) (b : Binds K fd ["_law_roster", "_law_rooms_here", "_law_value"] []) : CalG P w K mg base 3 "_law_due" [.s, .s, .s] .s F__law_due :=
  ⟨f, fd, ["_law_roster", "_law_rooms_here", "_law_value"], fnG_dl (sf := S__law_due) (mr := [.u, .u, .u, .u]) (po := []) (r := 1) F sc__law_due rfl rfl (.stb rfl (.stb rfl (.stb rfl (.nil _ _)))) (.inl rfl) (fun cdv A outer s H E _ _ _ =>
      ss_cons (ds_if (pb_cmp opEq (pd_ix ixAny (pd_var 0) (pd_int)) (pd_tup (k := 0) (pl_nil)))
        (ss_one (ds_ret (pd_cmp opEq (pd_b1 clRepr z_repr bt_repr (pd_var 2)) (pd_b1 clRepr z_repr bt_repr (pd_tup (k := 2) (pl_cons (pd_tup (k := 0) (pl_nil)) (pl_cons (pd_tup (k := 1) (pl_cons (pd_str) (pl_nil))) (pl_nil)))))) (.cons (.u _) (.cons (.u _) (.cons (.u _) (.cons (.rfl _) .nil))))))
        (ss_nil))
      (ss_cons (ds_if (pb_w (pbw_or (pb_not (pb_of (pd_isa "tuple" z_isinstance z_tuple bt_tuple (pd_var 2)))) (pbw_or (pb_cmp opNe (pd_b1 clLen z_len bt_len (pd_var 2)) (pd_int)) (pbw_or1 (pb_not (pb_of (pd_call c__law_is_schedule (pl_cons (pd_var 0) (pl_cons (pd_ix ixAny (pd_var 2) (pd_int)) (pl_nil))))))))))
        (ss_one (ds_ret (pd_bool) (.cons (.u _) (.cons (.u _) (.cons (.u _) (.cons (.rfl _) .nil))))))
        (ss_nil))
      (ss_cons (ds_asg 3 (pd_call c__law_numbers (pl_cons (pd_ix ixAny (pd_var 2) (pd_int)) (pl_nil))))
      (ss_one (ds_ret (pd_and (pd_cmp opLe (pd_b1 clMax z_max bt_max (pd_var 3)) (pd_var 1)) (pd_and1 (pd_call c__law_is_reason (pl_cons (pd_var 0) (pl_cons (pd_var 1) (pl_cons (pd_b1 clLen z_len bt_len (pd_var 3)) (pl_cons (pd_ix ixAny (pd_var 2) (pd_int)) (pl_nil)))))))) (.cons (.u _) (.cons (.u _) (.cons (.u _) (.cons (.u _) .nil))))))))), hm, F.kp, b⟩
theorem cal_is_number (z_isinstance : mg "isinstance" = none) (z_int : mg "int" = none) (z_bool : mg "bool" = none) {f : Addr} {fd : FuncData} (F : L2.Fun K "is_number" "is_number" st_is_number f fd) (hm : mg "is_number" = some (.ref f)) (b : Binds K fd ["value", "low", "high"] []) : CalG P w K mg base 1 "is_number" [.s, .s, .s] .s F_is_number :=
  ⟨f, fd, ["value", "low", "high"], fnG_dl (sf := S_is_number) (mr := [.u, .u, .u]) (po := []) (r := 0) F sc_is_number rfl rfl (.stb rfl (.stb rfl (.stb rfl (.nil _ _)))) (.inl rfl) (fun cdv A outer s H E _ _ _ =>
      ss_one (ds_ret (pd_and (pd_isa "int" z_isinstance z_int bt_int (pd_var 0)) (pd_and (pd_notV (pd_isa "bool" z_isinstance z_bool bt_bool (pd_var 0))) (pd_and1 (pd_chain opLe opLe (pd_var 1) (pd_var 0) (pd_var 2))))) (.cons (.u _) (.cons (.u _) (.cons (.u _) .nil))))), hm, F.kp, b⟩
theorem cal_is_hour (c_is_number : CalG P w K mg base 1 "is_number" [.s, .s, .s] .s F_is_number) {t_LAST_HOUR : Tok} (g_LAST_HOUR : mg "LAST_HOUR" = some (.int 1000000 t_LAST_HOUR)) {f : Addr} {fd : FuncData} (F : L2.Fun K "is_hour" "is_hour" st_is_hour f fd) (hm : mg "is_hour" = some (.ref f)) (b : Binds K fd ["value"] []) : CalG P w K mg base 2 "is_hour" [.s] .s F_is_hour :=
  ⟨f, fd, ["value"], fnG_dl (sf := S_is_hour) (mr := [.u]) (po := []) (r := 0) F sc_is_hour rfl rfl (.stb rfl (.nil _ _)) (.inl rfl) (fun cdv A outer s H E _ _ _ =>
      ss_one (ds_ret (pd_call c_is_number (pl_cons (pd_var 0) (pl_cons (pd_int) (pl_cons (pd_gint g_LAST_HOUR) (pl_nil))))) (.cons (.u _) .nil))), hm, F.kp, b⟩
theorem cal_are_rivals  {f : Addr} {fd : FuncData} (F : L2.Fun K "are_rivals" "are_rivals" st_are_rivals f fd) (hm : mg "are_rivals" = some (.ref f)) (b : Binds K fd ["roster", "one", "other"] []) : CalG P w K mg base 1 "are_rivals" [.s, .s, .s] .s F_are_rivals :=
  ⟨f, fd, ["roster", "one", "other"], fnG_dl (sf := S_are_rivals) (mr := [.u, .u, .u, .u, .u]) (po := []) (r := 2) F sc_are_rivals rfl rfl (.stb rfl (.stb rfl (.stb rfl (.nil _ _)))) (.inl rfl) (fun cdv A outer s H E _ _ _ =>
      ss_cons (ds_par 3 4 (pl_cons (pd_ix ixAny (pd_ix ixAny (pd_var 0) (pd_int)) (pd_var 1)) (pl_cons (pd_ix ixAny (pd_ix ixAny (pd_var 0) (pd_int)) (pd_var 2)) (pl_nil))))
      (ss_one (ds_ret (pd_and (pd_cmp opNe (pd_var 1) (pd_var 2)) (pd_and1 (pd_or (pd_cmp opEq (pd_ix ixAny (pd_var 3) (pd_int)) (pd_ix ixAny (pd_var 4) (pd_int))) (pd_or1 (pd_cmp opEq (pd_ix ixAny (pd_var 3) (pd_int)) (pd_ix ixAny (pd_var 4) (pd_int))))))) (.cons (.u _) (.cons (.u _) (.cons (.u _) (.cons (.u _) (.cons (.u _) .nil)))))))), hm, F.kp, b⟩
theorem cal_schedule_error (c_is_hour : CalG P w K mg base 2 "is_hour" [.s] .s F_is_hour) (c_are_rivals : CalG P w K mg base 1 "are_rivals" [.s, .s, .s] .s F_are_rivals) (z_len : mg "len" = none) (z_isinstance : mg "isinstance" = none) (z_tuple : mg "tuple" = none) (z_all : mg "all" = none) (z_range : mg "range" = none) {f : Addr} {fd : FuncData} (F : L2.Fun K "schedule_error" "schedule_error" st_schedule_error f fd) (hm : mg "schedule_error" = some (.ref f)) (b : Binds K fd ["roster", "value"] []) : CalG P w K mg base 3 "schedule_error" [.s, .s] .s F_schedule_error :=
  ⟨f, fd, ["roster", "value"], fnG_dl (sf := S_schedule_error) (mr := [.u, .u, .u, .u, .u, .u]) (po := []) (r := 4) F sc_schedule_error rfl rfl (.stb rfl (.stb rfl (.nil _ _))) (.inl rfl) (fun cdv A outer s H E _ _ _ =>
      ss_cons (ds_asg 2 (pd_b1 clLen z_len bt_len (pd_ix ixAny (pd_var 0) (pd_int))))
      (ss_cons (ds_if (pb_w (pbw_or (pb_not (pb_of (pd_isa "tuple" z_isinstance z_tuple bt_tuple (pd_var 1)))) (pbw_or (pb_cmp opNe (pd_b1 clLen z_len bt_len (pd_var 1)) (pd_var 2)) (pbw_or1 (pb_not (pb_of (pd_b1 clAll z_all bt_all (pd_frz (pd_lc [("hour", 5)] (pi_seq (pd_var 1)) (pg_nm 5) (pts_no) (pd_call c_is_hour (pl_cons (pd_var 5) (pl_nil))))))))))))
        (ss_one (ds_ret (pd_tup (k := 1) (pl_cons (pd_str) (pl_nil))) (.cons (.u _) (.cons (.u _) (.cons (.u _) (.cons (.rfl _) (.cons (.rfl _) (.cons (.rfl _) .nil))))))))
        (ss_nil))
      (ss_cons (ds_for [.s, .s, .s, .u, .u, .u] (pi_fg [3, 4] (pi_r1 z_range (pd_var 2)) (.cons (.rfl _) (.cons (.rfl _) (.cons (.rfl _) (.cons (.rfl _) (.cons (.rfl _) (.cons (.rfl _) .nil))))))) (.cons (.rfl _) (.cons (.rfl _) (.cons (.rfl _) (.cons (.rfl _) (.cons (.rfl _) (.cons (.rfl _) .nil)))))) (pg_nm 3)
        (ss_post [3, 4] [0, 1, 2, 3, 4, 5] (ss_le (ss_one (ds_for [.s, .s, .s, .s, .u, .u] (pi_fg [4] (pi_r2 z_range (pd_bin opAdd (pd_var 3) (pd_int)) (pd_var 2)) (.cons (.rfl _) (.cons (.rfl _) (.cons (.rfl _) (.cons (.rfl _) (.cons (.rfl _) (.cons (.rfl _) .nil))))))) (.cons (.rfl _) (.cons (.rfl _) (.cons (.rfl _) (.cons (.rfl _) (.cons (.rfl _) (.cons (.rfl _) .nil)))))) (pg_nm 4)
        (ss_post [4] [0, 1, 2, 3, 4, 5] (ss_le (ss_one (ds_if (pb_w (pbw_and (pb_cmp opEq (pd_ix ixAny (pd_var 1) (pd_var 3)) (pd_ix ixAny (pd_var 1) (pd_var 4))) (pbw_and1 (pb_of (pd_call c_are_rivals (pl_cons (pd_var 0) (pl_cons (pd_var 3) (pl_cons (pd_var 4) (pl_nil)))))))))
        (ss_one (ds_ret (pd_tup (k := 3) (pl_cons (pd_str) (pl_cons (pd_var 3) (pl_cons (pd_var 4) (pl_nil))))) (.cons (.u _) (.cons (.u _) (.cons (.u _) (.cons (.u _) (.cons (.u _) (.cons (.rfl _) .nil))))))))
        (ss_nil))) (.cons (.rfl _) (.cons (.rfl _) (.cons (.rfl _) (.cons (.rfl _) (.cons (.u _) (.cons (.rfl _) .nil)))))))) (.cons (.rfl _) (.cons (.rfl _) (.cons (.rfl _) (.cons (.rfl _) (.cons (.rfl _) (.cons (.rfl _) .nil)))))))) (.cons (.rfl _) (.cons (.rfl _) (.cons (.rfl _) (.cons (.u _) (.cons (.rfl _) (.cons (.rfl _) .nil)))))))) (.cons (.rfl _) (.cons (.rfl _) (.cons (.rfl _) (.cons (.rfl _) (.cons (.rfl _) (.cons (.rfl _) .nil)))))))
      (ss_one (ds_ret (pd_none) (.cons (.u _) (.cons (.u _) (.cons (.u _) (.cons (.rfl _) (.cons (.rfl _) (.cons (.rfl _) .nil))))))))))), hm, F.kp, b⟩
theorem cal_is_schedule (c_schedule_error : CalG P w K mg base 3 "schedule_error" [.s, .s] .s F_schedule_error) {f : Addr} {fd : FuncData} (F : L2.Fun K "is_schedule" "is_schedule" st_is_schedule f fd) (hm : mg "is_schedule" = some (.ref f)) (b : Binds K fd ["roster", "value"] []) : CalG P w K mg base 4 "is_schedule" [.s, .s] .s F_is_schedule :=
  ⟨f, fd, ["roster", "value"], fnG_dl (sf := S_is_schedule) (mr := [.u, .u]) (po := []) (r := 0) F sc_is_schedule rfl rfl (.stb rfl (.stb rfl (.nil _ _))) (.inl rfl) (fun cdv A outer s H E _ _ _ =>
      ss_one (ds_ret (pd_cmp opIs (pd_call c_schedule_error (pl_cons (pd_var 0) (pl_cons (pd_var 1) (pl_nil)))) (pd_none)) (.cons (.u _) (.cons (.u _) .nil)))), hm, F.kp, b⟩
theorem cal_lessons_of (z_enumerate : mg "enumerate" = none) {f : Addr} {fd : FuncData} (F : L2.Fun K "lessons_of" "lessons_of" st_lessons_of f fd) (hm : mg "lessons_of" = some (.ref f)) (b : Binds K fd ["roster", "side", "person"] []) : CalG P w K mg base 1 "lessons_of" [.s, .s, .s] .s F_lessons_of :=
  ⟨f, fd, ["roster", "side", "person"], fnG_dl (sf := S_lessons_of) (mr := [.u, .u, .u, .u, .u, .u]) (po := []) (r := 3) F sc_lessons_of rfl rfl (.stb rfl (.stb rfl (.stb rfl (.nil _ _)))) (.inl rfl) (fun cdv A outer s H E _ _ _ =>
      ss_cons (ds_asg 3 (pd_ifexp (pb_cmp opEq (pd_var 1) (pd_str)) (pd_int) (pd_int)))
      (ss_one (ds_ret (pd_frz (pd_lc [("index", 4), ("lesson", 5)] (pi_en z_enumerate (pd_ix ixAny (pd_var 0) (pd_int))) (pg_tp (k := 2) (pgs_cn (pg_nm 4) (pgs_cn (pg_nm 5) (pgs_nl)))) (pts_if (pb_cmp opEq (pd_ix ixAny (pd_var 5) (pd_var 3)) (pd_var 2))) (pd_var 4))) (.cons (.u _) (.cons (.u _) (.cons (.u _) (.cons (.u _) (.cons (.rfl _) (.cons (.rfl _) .nil))))))))), hm, F.kp, b⟩
theorem cal_degrees (c_lessons_of : CalG P w K mg base 1 "lessons_of" [.s, .s, .s] .s F_lessons_of) (z_tuple : mg "tuple" = none) (z_range : mg "range" = none) (z_len : mg "len" = none) {f : Addr} {fd : FuncData} (F : L2.Fun K "degrees" "degrees" st_degrees f fd) (hm : mg "degrees" = some (.ref f)) (b : Binds K fd ["roster"] []) : CalG P w K mg base 2 "degrees" [.s] .s F_degrees :=
  ⟨f, fd, ["roster"], fnG_dl (sf := S_degrees) (mr := [.u, .u, .u]) (po := []) (r := 2) F sc_degrees rfl rfl (.stb rfl (.nil _ _)) (.inl rfl) (fun cdv A outer s H E _ _ _ =>
      ss_cons (ds_asg 1 (pd_t1 clTuple z_tuple bt_tuple (pd_frz (pd_lc [("person", 2)] (pi_r1 z_range (pd_ix ixAny (pd_var 0) (pd_int))) (pg_nm 2) (pts_no) (pd_b1 clLen z_len bt_len (pd_call c_lessons_of (pl_cons (pd_var 0) (pl_cons (pd_str) (pl_cons (pd_var 2) (pl_nil))))))))))
      (ss_one (ds_ret (pd_tup (k := 2) (pl_cons (pd_var 1) (pl_cons (pd_t1 clTuple z_tuple bt_tuple (pd_frz (pd_lc [("person", 2)] (pi_r1 z_range (pd_ix ixAny (pd_var 0) (pd_int))) (pg_nm 2) (pts_no) (pd_b1 clLen z_len bt_len (pd_call c_lessons_of (pl_cons (pd_var 0) (pl_cons (pd_str) (pl_cons (pd_var 2) (pl_nil))))))))) (pl_nil)))) (.cons (.u _) (.cons (.u _) (.cons (.rfl _) .nil)))))), hm, F.kp, b⟩
theorem cal_is_reason (c_degrees : CalG P w K mg base 2 "degrees" [.s] .s F_degrees) (c_is_number : CalG P w K mg base 1 "is_number" [.s, .s, .s] .s F_is_number) (z_isinstance : mg "isinstance" = none) (z_tuple : mg "tuple" = none) (z_str : mg "str" = none) (z_len : mg "len" = none) (z_int : mg "int" = none) {a_ROOMS : Addr} {t0_ROOMS : Tok} {n_ROOMS : Nat} {sl_ROOMS : Array (Option Value)} (g_ROOMS : mg "ROOMS" = some (.ref a_ROOMS)) (k_ROOMS : K.lookup a_ROOMS = some ⟨.type "tuple", none, .seq #[.str "rooms" t0_ROOMS] n_ROOMS, sl_ROOMS⟩) {f : Addr} {fd : FuncData} (F : L2.Fun K "is_reason" "is_reason" st_is_reason f fd) (hm : mg "is_reason" = some (.ref f)) (b : Binds K fd ["roster", "rooms", "hours", "value"] []) : CalG P w K mg base 3 "is_reason" [.s, .s, .s, .s] .s F_is_reason :=
  ⟨f, fd, ["roster", "rooms", "hours", "value"], fnG_dl (sf := S_is_reason) (mr := [.u, .u, .u, .u, .u]) (po := []) (r := 1) F sc_is_reason rfl rfl (.stb rfl (.stb rfl (.stb rfl (.stb rfl (.nil _ _))))) (.inl rfl) (fun cdv A outer s H E _ _ _ =>
      ss_cons (ds_if (pb_w (pbw_or (pb_not (pb_of (pd_isa "tuple" z_isinstance z_tuple bt_tuple (pd_var 3)))) (pbw_or (pb_cmp opEq (pd_var 3) (pd_tup (k := 0) (pl_nil))) (pbw_or1 (pb_not (pb_of (pd_isa "str" z_isinstance z_str bt_str (pd_ix ixAny (pd_var 3) (pd_int)))))))))
        (ss_one (ds_ret (pd_bool) (.cons (.u _) (.cons (.u _) (.cons (.u _) (.cons (.u _) (.cons (.rfl _) .nil)))))))
        (ss_nil))
      (ss_cons (ds_if (pb_cmp opEqT (pd_var 3) (pd_gtup1 g_ROOMS k_ROOMS))
        (ss_one (ds_ret (pd_cmp opLt (pd_bin opMul (pd_bin opSub (pd_var 2) (pd_int)) (pd_var 1)) (pd_b1 clLen z_len bt_len (pd_ix ixAny (pd_var 0) (pd_int)))) (.cons (.u _) (.cons (.u _) (.cons (.u _) (.cons (.u _) (.cons (.rfl _) .nil)))))))
        (ss_nil))
      (ss_cons (ds_if (pb_w (pbw_or (pb_cmp opNe (pd_b1 clLen z_len bt_len (pd_var 3)) (pd_int)) (pbw_or1 (pb_cmp opNotIn (pd_ix ixAny (pd_var 3) (pd_int)) (pd_tup (k := 2) (pl_cons (pd_str) (pl_cons (pd_str) (pl_nil))))))))
        (ss_one (ds_ret (pd_bool) (.cons (.u _) (.cons (.u _) (.cons (.u _) (.cons (.u _) (.cons (.rfl _) .nil)))))))
        (ss_nil))
      (ss_cons (ds_asg 4 (pd_ix ixAny (pd_call c_degrees (pl_cons (pd_var 0) (pl_nil))) (pd_t1 clInt z_int bt_int (pd_cmp opEq (pd_ix ixAny (pd_var 3) (pd_int)) (pd_str)))))
      (ss_one (ds_ret (pd_and (pd_call c_is_number (pl_cons (pd_ix ixAny (pd_var 3) (pd_int)) (pl_cons (pd_int) (pl_cons (pd_bin opSub (pd_b1 clLen z_len bt_len (pd_var 4)) (pd_int)) (pl_nil))))) (pd_and1 (pd_cmp opEq (pd_ix ixAny (pd_var 4) (pd_ix ixAny (pd_var 3) (pd_int))) (pd_var 2)))) (.cons (.u _) (.cons (.u _) (.cons (.u _) (.cons (.u _) (.cons (.u _) .nil))))))))))), hm, F.kp, b⟩
theorem cal_rooms_holds (c_is_schedule : CalG P w K mg base 4 "is_schedule" [.s, .s] .s F_is_schedule) (c_is_reason : CalG P w K mg base 3 "is_reason" [.s, .s, .s, .s] .s F_is_reason) (z_isinstance : mg "isinstance" = none) (z_tuple : mg "tuple" = none) (z_len : mg "len" = none) (z_sorted : mg "sorted" = none) (z_set : mg "set" = none) (z_max : mg "max" = none) {a_NONE : Addr} {t0_NONE : Tok} {n_NONE : Nat} {sl_NONE : Array (Option Value)} (g_NONE : mg "NONE" = some (.ref a_NONE)) (k_NONE : K.lookup a_NONE = some ⟨.type "tuple", none, .seq #[.str "none" t0_NONE] n_NONE, sl_NONE⟩) {f : Addr} {fd : FuncData} (F : L2.Fun K "rooms_holds" "rooms_holds" st_rooms_holds f fd) (hm : mg "rooms_holds" = some (.ref f)) (b : Binds K fd ["roster", "rooms", "value"] []) : CalG P w K mg base 5 "rooms_holds" [.s, .s, .s] .s F_rooms_holds :=
  ⟨f, fd, ["roster", "rooms", "value"], fnG_dl (sf := S_rooms_holds) (mr := [.u, .u, .u, .u, .u, .u, .u]) (po := []) (r := 4) F sc_rooms_holds rfl rfl (.stb rfl (.stb rfl (.stb rfl (.nil _ _)))) (.inl rfl) (fun cdv A outer s H E _ _ _ =>
      ss_cons (ds_if (pb_w (pbw_or (pb_not (pb_of (pd_isa "tuple" z_isinstance z_tuple bt_tuple (pd_var 2)))) (pbw_or (pb_cmp opNe (pd_b1 clLen z_len bt_len (pd_var 2)) (pd_int)) (pbw_or1 (pb_not (pb_of (pd_call c_is_schedule (pl_cons (pd_var 0) (pl_cons (pd_ix ixAny (pd_var 2) (pd_int)) (pl_nil))))))))))
        (ss_one (ds_ret (pd_bool) (.cons (.u _) (.cons (.u _) (.cons (.u _) (.cons (.rfl _) (.cons (.rfl _) (.cons (.rfl _) (.cons (.rfl _) .nil)))))))))
        (ss_nil))
      (ss_cons (ds_tg (pd_var 2) (pg_tp (k := 2) (pgs_cn (pg_nm 3) (pgs_cn (pg_nm 4) (pgs_nl)))))
      (ss_cons (ds_if (pb_cmp opEq (pd_var 3) (pd_tup (k := 0) (pl_nil)))
        (ss_one (ds_ret (pd_cmp opEqT (pd_var 4) (pd_gtup1 g_NONE k_NONE)) (.cons (.u _) (.cons (.u _) (.cons (.u _) (.cons (.u _) (.cons (.u _) (.cons (.rfl _) (.cons (.rfl _) .nil)))))))))
        (ss_nil))
      (ss_cons (ds_setLc 5 [("hour", 6)] (pi_seq (pd_frz (pd_sortSet z_sorted bt_sorted z_set bt_set (pd_var 3)))) (pg_nm 6) (pts_no) (pd_count (pd_var 3) (pd_var 6)))
      (ss_one (ds_ret (pd_and (pd_cmp opLe (pd_b1 clMax z_max bt_max (pd_frzVar 5)) (pd_var 1)) (pd_and1 (pd_call c_is_reason (pl_cons (pd_var 0) (pl_cons (pd_var 1) (pl_cons (pd_b1 clLen z_len bt_len (pd_var 5)) (pl_cons (pd_var 4) (pl_nil)))))))) (.cons (.u _) (.cons (.u _) (.cons (.u _) (.cons (.u _) (.cons (.u _) (.cons (.u _) (.cons (.rfl _) .nil))))))))))))), hm, F.kp, b⟩
theorem fn_law (c__law_deck : CalG P w K mg base 1 "_law_deck" [.q] (.r [(.l .s), .s, .s, .s]) F__law_deck) (c__law_planned : CalG P w K mg base 3 "_law_planned" [(.r [(.l .s), .s, .s, .s]), .s] .s F__law_planned) (c__law_next : CalG P w K mg base 1 "_law_next" [(.r [(.l .s), .s, .s, .s]), .s] .s F__law_next) (c__law_numbers : CalG P w K mg base 1 "_law_numbers" [.s] .s F__law_numbers) (c__law_one : CalG P w K mg base 2 "_law_one" [(.r [(.l .s), .s, .s, .s]), .s] .s F__law_one) (c__law_rooms : CalG P w K mg base 2 "_law_rooms" [(.r [(.l .s), .s, .s, .s])] .s F__law_rooms) (c__law_compact : CalG P w K mg base 2 "_law_compact" [(.r [(.l .s), .s, .s, .s]), .s] .s F__law_compact) (c__law_spread : CalG P w K mg base 3 "_law_spread" [(.r [(.l .s), .s, .s, .s]), .s] .s F__law_spread) (c__law_reasons : CalG P w K mg base 1 "_law_reasons" [.s] .s F__law_reasons) (c__law_changed : CalG P w K mg base 14 "_law_changed" [(.r [(.l .s), .s, .s, .s]), .s] .s (F__law_changed 12)) (c__law_odd : CalG P w K mg base 2 "_law_odd" [(.r [(.l .s), .s, .s, .s])] .s F__law_odd) (c__law_due : CalG P w K mg base 3 "_law_due" [.s, .s, .s] .s F__law_due) (c_rooms_holds : CalG P w K mg base 5 "rooms_holds" [.s, .s, .s] .s F_rooms_holds) (z_range : mg "range" = none) (z_max : mg "max" = none) (z_repr : mg "repr" = none) {f : Addr} {fd : FuncData} (F : L2.Fun K "law" "law" st_law f fd) : FnG P w K mg base 15 f fd ["_law_script"] (spD K [.q] .s F_law) :=
  fnG_dl (sf := S_law) (mr := [.u, .u, .u, .u, .u, .u, .u, .u, .u, .u, .u, .u, .u, .u, .u]) (po := []) (r := 14) F sc_law rfl rfl (.stb rfl (.nil _ _)) (.inl rfl) (fun cdv A outer s H E _ _ _ =>
      ss_cons (ds_asg 1 (pd_callL (kk := 0) (j := 0) c__law_deck (pl_lend 0 (pl_nil))))
      (ss_cons (ds_for [.q, (.r [(.l .s), .s, .s, .s]), .u, .u, .u, .u, .u, .u, .u, .u, .u, .u, .u, .u, .u] (pi_fg [2, 3, 4, 5, 6, 7, 8, 9, 10, 11, 12, 13] (pi_r1 z_range (pd_int)) (.cons (.rfl _) (.cons (.rfl _) (.cons (.rfl _) (.cons (.rfl _) (.cons (.rfl _) (.cons (.rfl _) (.cons (.rfl _) (.cons (.rfl _) (.cons (.rfl _) (.cons (.rfl _) (.cons (.rfl _) (.cons (.rfl _) (.cons (.rfl _) (.cons (.rfl _) (.cons (.rfl _) .nil)))))))))))))))) (.cons (.rfl _) (.cons (.rfl _) (.cons (.rfl _) (.cons (.rfl _) (.cons (.rfl _) (.cons (.rfl _) (.cons (.rfl _) (.cons (.rfl _) (.cons (.rfl _) (.cons (.rfl _) (.cons (.rfl _) (.cons (.rfl _) (.cons (.rfl _) (.cons (.rfl _) (.cons (.rfl _) .nil))))))))))))))) (pg_nm 2)
        (ss_post [2, 3, 4, 5, 6, 7, 8, 9, 10, 11, 12, 13] [0, 1, 2, 3, 4, 5, 6, 7, 8, 9, 10, 11, 12, 13, 14] (ss_le (ss_cons (ds_tg (pd_callL (kk := 0) (j := 1) c__law_planned (pl_lend 1 (pl_cons (pd_int) (pl_nil)))) (pg_tpL (k := 2) (pgs_cn (pg_nm 3) (pgs_cn (pg_nm 4) (pgs_nl)))))
      (ss_cons (ds_if (pb_cmp opEq (pd_callL (kk := 0) (j := 1) c__law_next (pl_lend 1 (pl_cons (pd_int) (pl_nil)))) (pd_int))
        (ss_one (ds_tg (pd_tup (k := 2) (pl_cons (pd_tup (k := 3) (pl_cons (pd_ix ixAny (pd_var 3) (pd_int)) (pl_cons (pd_ix ixAny (pd_var 3) (pd_int)) (pl_cons (pd_tup (k := 0) (pl_nil)) (pl_nil))))) (pl_cons (pd_tup (k := 0) (pl_nil)) (pl_nil)))) (pg_tp (k := 2) (pgs_cn (pg_nm 3) (pgs_cn (pg_nm 4) (pgs_nl))))))
        (ss_nil))
      (ss_cons (ds_asg 5 (pd_b1 clMax z_max bt_max (pd_bin opAdd (pd_call c__law_numbers (pl_cons (pd_var 4) (pl_nil))) (pd_frz (pd_lst (k := 1) .s (pl_cons (pd_int) (pl_nil)))))))
      (ss_cons (ds_asg 6 (pd_callL (kk := 0) (j := 1) c__law_one (pl_lend 1 (pl_cons (pd_frz (pd_lst (k := 5) .s (pl_cons (pd_var 5) (pl_cons (pd_var 5) (pl_cons (pd_bin opAdd (pd_var 5) (pd_int)) (pl_cons (pd_b2 clMax2 z_max bt_max (pd_int) (pd_bin opSub (pd_var 5) (pd_int))) (pl_cons (pd_callL (kk := 0) (j := 1) c__law_rooms (pl_lend 1 (pl_nil))) (pl_nil)))))))) (pl_nil)))))
      (ss_cons (ds_asg 7 (pd_frz (pd_lst (k := 3) .s (pl_cons (pd_var 4) (pl_cons (pd_callL (kk := 0) (j := 1) c__law_compact (pl_lend 1 (pl_cons (pd_var 3) (pl_nil)))) (pl_cons (pd_callL (kk := 0) (j := 1) c__law_spread (pl_lend 1 (pl_cons (pd_var 4) (pl_nil)))) (pl_nil)))))))
      (ss_cons (ds_setLc 8 [("_law_reason", 14)] (pi_seq (pd_call c__law_reasons (pl_cons (pd_var 3) (pl_nil)))) (pg_nm 14) (pts_no) (pd_tup (k := 2) (pl_cons (pd_var 4) (pl_cons (pd_var 14) (pl_nil)))))
      (ss_cons (ds_for [.q, (.r [(.l .s), .s, .s, .s]), .s, .s, .s, .s, .s, .s, .s, .u, .u, .u, .u, .u, .u] (pi_fg [9, 10] (pi_r1 z_range (pd_int)) (.cons (.rfl _) (.cons (.rfl _) (.cons (.rfl _) (.cons (.rfl _) (.cons (.rfl _) (.cons (.rfl _) (.cons (.rfl _) (.cons (.rfl _) (.cons (.s _ rfl) (.cons (.rfl _) (.cons (.rfl _) (.cons (.rfl _) (.cons (.rfl _) (.cons (.rfl _) (.cons (.rfl _) .nil)))))))))))))))) (.cons (.rfl _) (.cons (.rfl _) (.cons (.rfl _) (.cons (.rfl _) (.cons (.rfl _) (.cons (.rfl _) (.cons (.rfl _) (.cons (.rfl _) (.cons (.rfl _) (.cons (.rfl _) (.cons (.rfl _) (.cons (.rfl _) (.cons (.rfl _) (.cons (.rfl _) (.cons (.rfl _) .nil))))))))))))))) (pg_nm 9)
        (ss_post [9, 10] [0, 1, 2, 3, 4, 5, 6, 7, 8, 9, 10, 11, 12, 13, 14] (ss_le (ss_cons (ds_asg 10 (pd_tup (k := 2) (pl_cons (pd_callL (kk := 0) (j := 1) c__law_one (pl_lend 1 (pl_cons (pd_var 7) (pl_nil)))) (pl_cons (pd_callL (kk := 0) (j := 1) c__law_one (pl_lend 1 (pl_cons (pd_call c__law_reasons (pl_cons (pd_var 3) (pl_nil))) (pl_nil)))) (pl_nil)))))
      (ss_one (ds_asg 8 (pd_bin opAdd (pd_var 8) (pd_frz (pd_lst (k := 3) .s (pl_cons (pd_var 10) (pl_cons (pd_callL (kk := 0) (j := 1) c__law_changed (pl_lend 1 (pl_cons (pd_var 10) (pl_nil)))) (pl_cons (pd_callL (kk := 0) (j := 1) c__law_changed (pl_lend 1 (pl_cons (pd_callL (kk := 0) (j := 1) c__law_changed (pl_lend 1 (pl_cons (pd_var 10) (pl_nil)))) (pl_nil)))) (pl_nil)))))))))) (.cons (.rfl _) (.cons (.rfl _) (.cons (.rfl _) (.cons (.rfl _) (.cons (.rfl _) (.cons (.rfl _) (.cons (.rfl _) (.cons (.rfl _) (.cons (.rfl _) (.cons (.u _) (.cons (.u _) (.cons (.rfl _) (.cons (.rfl _) (.cons (.rfl _) (.cons (.rfl _) .nil))))))))))))))))) (.cons (.rfl _) (.cons (.rfl _) (.cons (.rfl _) (.cons (.rfl _) (.cons (.rfl _) (.cons (.rfl _) (.cons (.rfl _) (.cons (.rfl _) (.cons (.rfl _) (.cons (.rfl _) (.cons (.rfl _) (.cons (.rfl _) (.cons (.rfl _) (.cons (.rfl _) (.cons (.rfl _) .nil))))))))))))))))
      (ss_one (ds_for [.q, (.r [(.l .s), .s, .s, .s]), .s, .s, .s, .s, .s, .s, .s, .u, .u, .u, .u, .u, .u] (pi_fg [11, 12, 13] (pi_seq (pd_bin opAdd (pd_var 8) (pd_frz (pd_lst (k := 1) .s (pl_cons (pd_callL (kk := 0) (j := 1) c__law_odd (pl_lend 1 (pl_nil))) (pl_nil)))))) (.cons (.rfl _) (.cons (.rfl _) (.cons (.rfl _) (.cons (.rfl _) (.cons (.rfl _) (.cons (.rfl _) (.cons (.rfl _) (.cons (.rfl _) (.cons (.rfl _) (.cons (.rfl _) (.cons (.rfl _) (.cons (.rfl _) (.cons (.rfl _) (.cons (.rfl _) (.cons (.rfl _) .nil)))))))))))))))) (.cons (.rfl _) (.cons (.rfl _) (.cons (.rfl _) (.cons (.rfl _) (.cons (.rfl _) (.cons (.rfl _) (.cons (.rfl _) (.cons (.rfl _) (.cons (.rfl _) (.cons (.rfl _) (.cons (.rfl _) (.cons (.rfl _) (.cons (.rfl _) (.cons (.rfl _) (.cons (.rfl _) .nil))))))))))))))) (pg_nm 11)
        (ss_post [11, 12, 13] [0, 1, 2, 3, 4, 5, 6, 7, 8, 9, 10, 11, 12, 13, 14] (ss_le (ss_cons (ds_par 12 13 (pl_cons (pd_b1 clRepr z_repr bt_repr (pd_tup (k := 3) (pl_cons (pd_var 3) (pl_cons (pd_var 6) (pl_cons (pd_var 11) (pl_nil)))))) (pl_cons (pd_b1 clRepr z_repr bt_repr (pd_call c__law_due (pl_cons (pd_var 3) (pl_cons (pd_var 6) (pl_cons (pd_var 11) (pl_nil)))))) (pl_nil))))
      (ss_one (ds_if (pb_w (pbw_or (pb_cmp opNe (pd_b1 clRepr z_repr bt_repr (pd_call c_rooms_holds (pl_cons (pd_var 3) (pl_cons (pd_var 6) (pl_cons (pd_var 11) (pl_nil)))))) (pd_var 13)) (pbw_or1 (pb_cmp opNe (pd_b1 clRepr z_repr bt_repr (pd_tup (k := 3) (pl_cons (pd_var 3) (pl_cons (pd_var 6) (pl_cons (pd_var 11) (pl_nil)))))) (pd_var 12)))))
        (ss_one (ds_ret (pd_bool) (.cons (.u _) (.cons (.u _) (.cons (.u _) (.cons (.u _) (.cons (.u _) (.cons (.u _) (.cons (.u _) (.cons (.u _) (.cons (.u _) (.cons (.rfl _) (.cons (.rfl _) (.cons (.u _) (.cons (.u _) (.cons (.u _) (.cons (.rfl _) .nil)))))))))))))))))
        (ss_nil)))) (.cons (.rfl _) (.cons (.rfl _) (.cons (.rfl _) (.cons (.rfl _) (.cons (.rfl _) (.cons (.rfl _) (.cons (.rfl _) (.cons (.rfl _) (.cons (.rfl _) (.cons (.rfl _) (.cons (.rfl _) (.cons (.u _) (.cons (.u _) (.cons (.u _) (.cons (.rfl _) .nil))))))))))))))))) (.cons (.rfl _) (.cons (.rfl _) (.cons (.rfl _) (.cons (.rfl _) (.cons (.rfl _) (.cons (.rfl _) (.cons (.rfl _) (.cons (.rfl _) (.cons (.rfl _) (.cons (.rfl _) (.cons (.rfl _) (.cons (.rfl _) (.cons (.rfl _) (.cons (.rfl _) (.cons (.rfl _) .nil)))))))))))))))))))))))) (.cons (.rfl _) (.cons (.rfl _) (.cons (.u _) (.cons (.u _) (.cons (.u _) (.cons (.u _) (.cons (.u _) (.cons (.u _) (.cons (.u _) (.cons (.rfl _) (.cons (.rfl _) (.cons (.rfl _) (.cons (.rfl _) (.cons (.rfl _) (.cons (.rfl _) .nil))))))))))))))))) (.cons (.rfl _) (.cons (.rfl _) (.cons (.rfl _) (.cons (.rfl _) (.cons (.rfl _) (.cons (.rfl _) (.cons (.rfl _) (.cons (.rfl _) (.cons (.rfl _) (.cons (.rfl _) (.cons (.rfl _) (.cons (.rfl _) (.cons (.rfl _) (.cons (.rfl _) (.cons (.rfl _) .nil))))))))))))))))
      (ss_one (ds_ret (pd_bool) (.cons (.u _) (.cons (.u _) (.cons (.rfl _) (.cons (.rfl _) (.cons (.rfl _) (.cons (.rfl _) (.cons (.rfl _) (.cons (.rfl _) (.cons (.rfl _) (.cons (.rfl _) (.cons (.rfl _) (.cons (.rfl _) (.cons (.rfl _) (.cons (.rfl _) (.cons (.rfl _) .nil)))))))))))))))))))
end
/-! ### what the top has written -/
theorem all_mk {l : PySem.W.OpenLaw} {w : World} {K : PySem.W.Frag} {h : Heap} {mg : Str → Option Value} {fa f1 f2 f3 f4 f5 f6 f7 f8 f9 f10 f11 f12 f13 f14 f15 f16 f17 f18 f19 f20 f21 f22 f23 f24 f25 f26 f27 f28 : Addr} (X : K.In h) (G : h.Ns mainGlobals mg) (hfa : mg "law" = some (.ref fa))
    {od1 an1 : Option Addr} {sl1 : Array (Option Value)} {oc1 kV1 dc1 pm1 cd1 ct1 : Value}
    {od2 an2 : Option Addr} {sl2 : Array (Option Value)} {oc2 kV2 dc2 pm2 cd2 ct2 : Value}
    {od3 an3 : Option Addr} {sl3 : Array (Option Value)} {oc3 kV3 dc3 pm3 cd3 ct3 : Value}
    {od4 an4 : Option Addr} {sl4 : Array (Option Value)} {oc4 kV4 dc4 pm4 cd4 ct4 : Value}
    {od5 an5 : Option Addr} {sl5 : Array (Option Value)} {oc5 kV5 dc5 pm5 cd5 ct5 : Value}
    {od6 an6 : Option Addr} {sl6 : Array (Option Value)} {oc6 kV6 dc6 pm6 cd6 ct6 : Value}
    {od7 an7 : Option Addr} {sl7 : Array (Option Value)} {oc7 kV7 dc7 pm7 cd7 ct7 : Value}
    {od8 an8 : Option Addr} {sl8 : Array (Option Value)} {oc8 kV8 dc8 pm8 cd8 ct8 : Value}
    {od9 an9 : Option Addr} {sl9 : Array (Option Value)} {oc9 kV9 dc9 pm9 cd9 ct9 : Value}
    {od10 an10 : Option Addr} {sl10 : Array (Option Value)} {oc10 kV10 dc10 pm10 cd10 ct10 : Value}
    {od11 an11 : Option Addr} {sl11 : Array (Option Value)} {oc11 kV11 dc11 pm11 cd11 ct11 : Value}
    {od12 an12 : Option Addr} {sl12 : Array (Option Value)} {oc12 kV12 dc12 pm12 cd12 ct12 : Value}
    {od13 an13 : Option Addr} {sl13 : Array (Option Value)} {oc13 kV13 dc13 pm13 cd13 ct13 : Value}
    {od14 an14 : Option Addr} {sl14 : Array (Option Value)} {oc14 kV14 dc14 pm14 cd14 ct14 : Value}
    {od15 an15 : Option Addr} {sl15 : Array (Option Value)} {oc15 kV15 dc15 pm15 cd15 ct15 : Value}
    {od16 an16 : Option Addr} {sl16 : Array (Option Value)} {oc16 kV16 dc16 pm16 cd16 ct16 : Value}
    {od17 an17 : Option Addr} {sl17 : Array (Option Value)} {oc17 kV17 dc17 pm17 cd17 ct17 : Value}
    {od18 an18 : Option Addr} {sl18 : Array (Option Value)} {oc18 kV18 dc18 pm18 cd18 ct18 : Value}
    {od19 an19 : Option Addr} {sl19 : Array (Option Value)} {oc19 kV19 dc19 pm19 cd19 ct19 : Value}
    {od20 an20 : Option Addr} {sl20 : Array (Option Value)} {oc20 kV20 dc20 pm20 cd20 ct20 : Value}
    {od21 an21 : Option Addr} {sl21 : Array (Option Value)} {oc21 kV21 dc21 pm21 cd21 ct21 : Value}
    {od22 an22 : Option Addr} {sl22 : Array (Option Value)} {oc22 kV22 dc22 pm22 cd22 ct22 : Value}
    {od23 an23 : Option Addr} {sl23 : Array (Option Value)} {oc23 kV23 dc23 pm23 cd23 ct23 : Value}
    {od24 an24 : Option Addr} {sl24 : Array (Option Value)} {oc24 kV24 dc24 pm24 cd24 ct24 : Value}
    {od25 an25 : Option Addr} {sl25 : Array (Option Value)} {oc25 kV25 dc25 pm25 cd25 ct25 : Value}
    {od26 an26 : Option Addr} {sl26 : Array (Option Value)} {oc26 kV26 dc26 pm26 cd26 ct26 : Value}
    {od27 an27 : Option Addr} {sl27 : Array (Option Value)} {oc27 kV27 dc27 pm27 cd27 ct27 : Value}
    {od28 an28 : Option Addr} {sl28 : Array (Option Value)} {oc28 kV28 dc28 pm28 cd28 ct28 : Value}
    {t_LAST_HOUR : Tok}
    {a_ROOMS : Addr} {t0_ROOMS : Tok} {n_ROOMS : Nat} {sl_ROOMS : Array (Option Value)}
    {a_NONE : Addr} {t0_NONE : Tok} {n_NONE : Nat} {sl_NONE : Array (Option Value)}
    (a1 : PySem.W.nsIn K mainGlobals "_law_deck" = some (some (.ref f1))) (l1 : K.lookup f1 = some ⟨oc1, od1, .func (PySem.W.fnOf "_law_deck" "_law_deck" (defArgs st__law_deck) (defBody st__law_deck) (defScope st__law_deck) .none kV1 dc1 pm1 an1 cd1 ct1), sl1⟩) (c1 : PySem.W.codeIn K cd1 "_law_deck" = true) (k1 : PySem.W.keepIn K (.ref f1) = true)
    (a2 : PySem.W.nsIn K mainGlobals "_law_next" = some (some (.ref f2))) (l2 : K.lookup f2 = some ⟨oc2, od2, .func (PySem.W.fnOf "_law_next" "_law_next" (defArgs st__law_next) (defBody st__law_next) (defScope st__law_next) .none kV2 dc2 pm2 an2 cd2 ct2), sl2⟩) (c2 : PySem.W.codeIn K cd2 "_law_next" = true) (k2 : PySem.W.keepIn K (.ref f2) = true)
    (a3 : PySem.W.nsIn K mainGlobals "_law_shuffled" = some (some (.ref f3))) (l3 : K.lookup f3 = some ⟨oc3, od3, .func (PySem.W.fnOf "_law_shuffled" "_law_shuffled" (defArgs st__law_shuffled) (defBody st__law_shuffled) (defScope st__law_shuffled) .none kV3 dc3 pm3 an3 cd3 ct3), sl3⟩) (c3 : PySem.W.codeIn K cd3 "_law_shuffled" = true) (k3 : PySem.W.keepIn K (.ref f3) = true)
    (a4 : PySem.W.nsIn K mainGlobals "_law_planned" = some (some (.ref f4))) (l4 : K.lookup f4 = some ⟨oc4, od4, .func (PySem.W.fnOf "_law_planned" "_law_planned" (defArgs st__law_planned) (defBody st__law_planned) (defScope st__law_planned) .none kV4 dc4 pm4 an4 cd4 ct4), sl4⟩) (c4 : PySem.W.codeIn K cd4 "_law_planned" = true) (k4 : PySem.W.keepIn K (.ref f4) = true)
    (a5 : PySem.W.nsIn K mainGlobals "_law_numbers" = some (some (.ref f5))) (l5 : K.lookup f5 = some ⟨oc5, od5, .func (PySem.W.fnOf "_law_numbers" "_law_numbers" (defArgs st__law_numbers) (defBody st__law_numbers) (defScope st__law_numbers) .none kV5 dc5 pm5 an5 cd5 ct5), sl5⟩) (c5 : PySem.W.codeIn K cd5 "_law_numbers" = true) (k5 : PySem.W.keepIn K (.ref f5) = true)
    (a6 : PySem.W.nsIn K mainGlobals "_law_one" = some (some (.ref f6))) (l6 : K.lookup f6 = some ⟨oc6, od6, .func (PySem.W.fnOf "_law_one" "_law_one" (defArgs st__law_one) (defBody st__law_one) (defScope st__law_one) .none kV6 dc6 pm6 an6 cd6 ct6), sl6⟩) (c6 : PySem.W.codeIn K cd6 "_law_one" = true) (k6 : PySem.W.keepIn K (.ref f6) = true)
    (a7 : PySem.W.nsIn K mainGlobals "_law_rooms" = some (some (.ref f7))) (l7 : K.lookup f7 = some ⟨oc7, od7, .func (PySem.W.fnOf "_law_rooms" "_law_rooms" (defArgs st__law_rooms) (defBody st__law_rooms) (defScope st__law_rooms) .none kV7 dc7 pm7 an7 cd7 ct7), sl7⟩) (c7 : PySem.W.codeIn K cd7 "_law_rooms" = true) (k7 : PySem.W.keepIn K (.ref f7) = true)
    (a8 : PySem.W.nsIn K mainGlobals "_law_are_rivals" = some (some (.ref f8))) (l8 : K.lookup f8 = some ⟨oc8, od8, .func (PySem.W.fnOf "_law_are_rivals" "_law_are_rivals" (defArgs st__law_are_rivals) (defBody st__law_are_rivals) (defScope st__law_are_rivals) .none kV8 dc8 pm8 an8 cd8 ct8), sl8⟩) (c8 : PySem.W.codeIn K cd8 "_law_are_rivals" = true) (k8 : PySem.W.keepIn K (.ref f8) = true)
    (a9 : PySem.W.nsIn K mainGlobals "_law_compact" = some (some (.ref f9))) (l9 : K.lookup f9 = some ⟨oc9, od9, .func (PySem.W.fnOf "_law_compact" "_law_compact" (defArgs st__law_compact) (defBody st__law_compact) (defScope st__law_compact) .none kV9 dc9 pm9 an9 cd9 ct9), sl9⟩) (c9 : PySem.W.codeIn K cd9 "_law_compact" = true) (k9 : PySem.W.keepIn K (.ref f9) = true)
    (a10 : PySem.W.nsIn K mainGlobals "_law_spread" = some (some (.ref f10))) (l10 : K.lookup f10 = some ⟨oc10, od10, .func (PySem.W.fnOf "_law_spread" "_law_spread" (defArgs st__law_spread) (defBody st__law_spread) (defScope st__law_spread) .none kV10 dc10 pm10 an10 cd10 ct10), sl10⟩) (c10 : PySem.W.codeIn K cd10 "_law_spread" = true) (k10 : PySem.W.keepIn K (.ref f10) = true)
    (a11 : PySem.W.nsIn K mainGlobals "_law_reasons" = some (some (.ref f11))) (l11 : K.lookup f11 = some ⟨oc11, od11, .func (PySem.W.fnOf "_law_reasons" "_law_reasons" (defArgs st__law_reasons) (defBody st__law_reasons) (defScope st__law_reasons) .none kV11 dc11 pm11 an11 cd11 ct11), sl11⟩) (c11 : PySem.W.codeIn K cd11 "_law_reasons" = true) (k11 : PySem.W.keepIn K (.ref f11) = true)
    (a12 : PySem.W.nsIn K mainGlobals "_law_odd" = some (some (.ref f12))) (l12 : K.lookup f12 = some ⟨oc12, od12, .func (PySem.W.fnOf "_law_odd" "_law_odd" (defArgs st__law_odd) (defBody st__law_odd) (defScope st__law_odd) .none kV12 dc12 pm12 an12 cd12 ct12), sl12⟩) (c12 : PySem.W.codeIn K cd12 "_law_odd" = true) (k12 : PySem.W.keepIn K (.ref f12) = true)
    (a13 : PySem.W.nsIn K mainGlobals "_law_changed" = some (some (.ref f13))) (l13 : K.lookup f13 = some ⟨oc13, od13, .func (PySem.W.fnOf "_law_changed" "_law_changed" (defArgs st__law_changed) (defBody st__law_changed) (defScope st__law_changed) .none kV13 dc13 pm13 an13 cd13 ct13), sl13⟩) (c13 : PySem.W.codeIn K cd13 "_law_changed" = true) (k13 : PySem.W.keepIn K (.ref f13) = true)
    (a14 : PySem.W.nsIn K mainGlobals "_law_whole" = some (some (.ref f14))) (l14 : K.lookup f14 = some ⟨oc14, od14, .func (PySem.W.fnOf "_law_whole" "_law_whole" (defArgs st__law_whole) (defBody st__law_whole) (defScope st__law_whole) .none kV14 dc14 pm14 an14 cd14 ct14), sl14⟩) (c14 : PySem.W.codeIn K cd14 "_law_whole" = true) (k14 : PySem.W.keepIn K (.ref f14) = true)
    (a15 : PySem.W.nsIn K mainGlobals "_law_is_schedule" = some (some (.ref f15))) (l15 : K.lookup f15 = some ⟨oc15, od15, .func (PySem.W.fnOf "_law_is_schedule" "_law_is_schedule" (defArgs st__law_is_schedule) (defBody st__law_is_schedule) (defScope st__law_is_schedule) .none kV15 dc15 pm15 an15 cd15 ct15), sl15⟩) (c15 : PySem.W.codeIn K cd15 "_law_is_schedule" = true) (k15 : PySem.W.keepIn K (.ref f15) = true)
    (a16 : PySem.W.nsIn K mainGlobals "_law_degrees" = some (some (.ref f16))) (l16 : K.lookup f16 = some ⟨oc16, od16, .func (PySem.W.fnOf "_law_degrees" "_law_degrees" (defArgs st__law_degrees) (defBody st__law_degrees) (defScope st__law_degrees) .none kV16 dc16 pm16 an16 cd16 ct16), sl16⟩) (c16 : PySem.W.codeIn K cd16 "_law_degrees" = true) (k16 : PySem.W.keepIn K (.ref f16) = true)
    (a17 : PySem.W.nsIn K mainGlobals "_law_is_reason" = some (some (.ref f17))) (l17 : K.lookup f17 = some ⟨oc17, od17, .func (PySem.W.fnOf "_law_is_reason" "_law_is_reason" (defArgs st__law_is_reason) (defBody st__law_is_reason) (defScope st__law_is_reason) .none kV17 dc17 pm17 an17 cd17 ct17), sl17⟩) (c17 : PySem.W.codeIn K cd17 "_law_is_reason" = true) (k17 : PySem.W.keepIn K (.ref f17) = true)
    (a18 : PySem.W.nsIn K mainGlobals "_law_due" = some (some (.ref f18))) (l18 : K.lookup f18 = some ⟨oc18, od18, .func (PySem.W.fnOf "_law_due" "_law_due" (defArgs st__law_due) (defBody st__law_due) (defScope st__law_due) .none kV18 dc18 pm18 an18 cd18 ct18), sl18⟩) (c18 : PySem.W.codeIn K cd18 "_law_due" = true) (k18 : PySem.W.keepIn K (.ref f18) = true)
    (a19 : PySem.W.nsIn K mainGlobals "is_number" = some (some (.ref f19))) (l19 : K.lookup f19 = some ⟨oc19, od19, .func (PySem.W.fnOf "is_number" "is_number" (defArgs st_is_number) (defBody st_is_number) (defScope st_is_number) .none kV19 dc19 pm19 an19 cd19 ct19), sl19⟩) (c19 : PySem.W.codeIn K cd19 "is_number" = true) (k19 : PySem.W.keepIn K (.ref f19) = true)
    (a20 : PySem.W.nsIn K mainGlobals "is_hour" = some (some (.ref f20))) (l20 : K.lookup f20 = some ⟨oc20, od20, .func (PySem.W.fnOf "is_hour" "is_hour" (defArgs st_is_hour) (defBody st_is_hour) (defScope st_is_hour) .none kV20 dc20 pm20 an20 cd20 ct20), sl20⟩) (c20 : PySem.W.codeIn K cd20 "is_hour" = true) (k20 : PySem.W.keepIn K (.ref f20) = true)
    (a21 : PySem.W.nsIn K mainGlobals "are_rivals" = some (some (.ref f21))) (l21 : K.lookup f21 = some ⟨oc21, od21, .func (PySem.W.fnOf "are_rivals" "are_rivals" (defArgs st_are_rivals) (defBody st_are_rivals) (defScope st_are_rivals) .none kV21 dc21 pm21 an21 cd21 ct21), sl21⟩) (c21 : PySem.W.codeIn K cd21 "are_rivals" = true) (k21 : PySem.W.keepIn K (.ref f21) = true)
    (a22 : PySem.W.nsIn K mainGlobals "schedule_error" = some (some (.ref f22))) (l22 : K.lookup f22 = some ⟨oc22, od22, .func (PySem.W.fnOf "schedule_error" "schedule_error" (defArgs st_schedule_error) (defBody st_schedule_error) (defScope st_schedule_error) .none kV22 dc22 pm22 an22 cd22 ct22), sl22⟩) (c22 : PySem.W.codeIn K cd22 "schedule_error" = true) (k22 : PySem.W.keepIn K (.ref f22) = true)
    (a23 : PySem.W.nsIn K mainGlobals "is_schedule" = some (some (.ref f23))) (l23 : K.lookup f23 = some ⟨oc23, od23, .func (PySem.W.fnOf "is_schedule" "is_schedule" (defArgs st_is_schedule) (defBody st_is_schedule) (defScope st_is_schedule) .none kV23 dc23 pm23 an23 cd23 ct23), sl23⟩) (c23 : PySem.W.codeIn K cd23 "is_schedule" = true) (k23 : PySem.W.keepIn K (.ref f23) = true)
    (a24 : PySem.W.nsIn K mainGlobals "lessons_of" = some (some (.ref f24))) (l24 : K.lookup f24 = some ⟨oc24, od24, .func (PySem.W.fnOf "lessons_of" "lessons_of" (defArgs st_lessons_of) (defBody st_lessons_of) (defScope st_lessons_of) .none kV24 dc24 pm24 an24 cd24 ct24), sl24⟩) (c24 : PySem.W.codeIn K cd24 "lessons_of" = true) (k24 : PySem.W.keepIn K (.ref f24) = true)
    (a25 : PySem.W.nsIn K mainGlobals "degrees" = some (some (.ref f25))) (l25 : K.lookup f25 = some ⟨oc25, od25, .func (PySem.W.fnOf "degrees" "degrees" (defArgs st_degrees) (defBody st_degrees) (defScope st_degrees) .none kV25 dc25 pm25 an25 cd25 ct25), sl25⟩) (c25 : PySem.W.codeIn K cd25 "degrees" = true) (k25 : PySem.W.keepIn K (.ref f25) = true)
    (a26 : PySem.W.nsIn K mainGlobals "is_reason" = some (some (.ref f26))) (l26 : K.lookup f26 = some ⟨oc26, od26, .func (PySem.W.fnOf "is_reason" "is_reason" (defArgs st_is_reason) (defBody st_is_reason) (defScope st_is_reason) .none kV26 dc26 pm26 an26 cd26 ct26), sl26⟩) (c26 : PySem.W.codeIn K cd26 "is_reason" = true) (k26 : PySem.W.keepIn K (.ref f26) = true)
    (a27 : PySem.W.nsIn K mainGlobals "rooms_holds" = some (some (.ref f27))) (l27 : K.lookup f27 = some ⟨oc27, od27, .func (PySem.W.fnOf "rooms_holds" "rooms_holds" (defArgs st_rooms_holds) (defBody st_rooms_holds) (defScope st_rooms_holds) .none kV27 dc27 pm27 an27 cd27 ct27), sl27⟩) (c27 : PySem.W.codeIn K cd27 "rooms_holds" = true) (k27 : PySem.W.keepIn K (.ref f27) = true)
    (a28 : PySem.W.nsIn K mainGlobals "law" = some (some (.ref f28))) (l28 : K.lookup f28 = some ⟨oc28, od28, .func (PySem.W.fnOf "law" "law" (defArgs st_law) (defBody st_law) (defScope st_law) .none kV28 dc28 pm28 an28 cd28 ct28), sl28⟩) (c28 : PySem.W.codeIn K cd28 "law" = true) (k28 : PySem.W.keepIn K (.ref f28) = true)
    (z_abs : PySem.W.nsIn K mainGlobals "abs" = some none)
    (z_len : PySem.W.nsIn K mainGlobals "len" = some none)
    (z_int : PySem.W.nsIn K mainGlobals "int" = some none)
    (z_list : PySem.W.nsIn K mainGlobals "list" = some none)
    (z_range : PySem.W.nsIn K mainGlobals "range" = some none)
    (z_zip : PySem.W.nsIn K mainGlobals "zip" = some none)
    (z_tuple : PySem.W.nsIn K mainGlobals "tuple" = some none)
    (z_sorted : PySem.W.nsIn K mainGlobals "sorted" = some none)
    (z_set : PySem.W.nsIn K mainGlobals "set" = some none)
    (z_min : PySem.W.nsIn K mainGlobals "min" = some none)
    (z_isinstance : PySem.W.nsIn K mainGlobals "isinstance" = some none)
    (z_bool : PySem.W.nsIn K mainGlobals "bool" = some none)
    (z_str : PySem.W.nsIn K mainGlobals "str" = some none)
    (z_repr : PySem.W.nsIn K mainGlobals "repr" = some none)
    (z_max : PySem.W.nsIn K mainGlobals "max" = some none)
    (z_all : PySem.W.nsIn K mainGlobals "all" = some none)
    (z_enumerate : PySem.W.nsIn K mainGlobals "enumerate" = some none)
    (g_LAST_HOUR : PySem.W.nsIn K mainGlobals "LAST_HOUR" = some (some (.int 1000000 t_LAST_HOUR)))
    (g_ROOMS : PySem.W.nsIn K mainGlobals "ROOMS" = some (some (.ref a_ROOMS)))
    (k_ROOMS : K.lookup a_ROOMS = some ⟨.type "tuple", none, .seq #[.str "rooms" t0_ROOMS] n_ROOMS, sl_ROOMS⟩)
    (g_NONE : PySem.W.nsIn K mainGlobals "NONE" = some (some (.ref a_NONE)))
    (k_NONE : K.lookup a_NONE = some ⟨.type "tuple", none, .seq #[.str "none" t0_NONE] n_NONE, sl_NONE⟩) :
    ∃ fd : FuncData, (∀ (s : Shared) (v : Value), BindsTo s fd ⟨[v], []⟩ [("_law_script", v)]) ∧ ∀ base : Heap, K.In base → base.Ns mainGlobals mg → FnG l.prog w K mg base 15 fa fd ["_law_script"] (spD K [.q] .s F_law) := by
  have e := hfa.symm.trans (PySem.W.mg_of X G a28)
  cases e
  have F1 := fun_mk (st := st__law_deck) l1 c1 k1
  have b1 := F1.binds (ps := ["_law_script"]) fun _ _ _ _ _ _ us hl => match us, hl with | [_], _ => rfl
  have F2 := fun_mk (st := st__law_next) l2 c2 k2
  have b2 := F2.binds (ps := ["_law_deck_here", "_law_many"]) fun _ _ _ _ _ _ us hl => match us, hl with | [_, _], _ => rfl
  have F3 := fun_mk (st := st__law_shuffled) l3 c3 k3
  have b3 := F3.binds (ps := ["_law_deck_here", "_law_items"]) fun _ _ _ _ _ _ us hl => match us, hl with | [_, _], _ => rfl
  have F4 := fun_mk (st := st__law_planned) l4 c4 k4
  have b4 := F4.binds (ps := ["_law_deck_here", "_law_most"]) fun _ _ _ _ _ _ us hl => match us, hl with | [_, _], _ => rfl
  have F5 := fun_mk (st := st__law_numbers) l5 c5 k5
  have b5 := F5.binds (ps := ["_law_schedule"]) fun _ _ _ _ _ _ us hl => match us, hl with | [_], _ => rfl
  have F6 := fun_mk (st := st__law_one) l6 c6 k6
  have b6 := F6.binds (ps := ["_law_deck_here", "_law_items"]) fun _ _ _ _ _ _ us hl => match us, hl with | [_, _], _ => rfl
  have F7 := fun_mk (st := st__law_rooms) l7 c7 k7
  have b7 := F7.binds (ps := ["_law_deck_here"]) fun _ _ _ _ _ _ us hl => match us, hl with | [_], _ => rfl
  have F8 := fun_mk (st := st__law_are_rivals) l8 c8 k8
  have b8 := F8.binds (ps := ["_law_roster", "_law_one_here", "_law_other"]) fun _ _ _ _ _ _ us hl => match us, hl with | [_, _, _], _ => rfl
  have F9 := fun_mk (st := st__law_compact) l9 c9 k9
  have b9 := F9.binds (ps := ["_law_deck_here", "_law_roster"]) fun _ _ _ _ _ _ us hl => match us, hl with | [_, _], _ => rfl
  have F10 := fun_mk (st := st__law_spread) l10 c10 k10
  have b10 := F10.binds (ps := ["_law_deck_here", "_law_schedule"]) fun _ _ _ _ _ _ us hl => match us, hl with | [_, _], _ => rfl
  have F11 := fun_mk (st := st__law_reasons) l11 c11 k11
  have b11 := F11.binds (ps := ["_law_roster"]) fun _ _ _ _ _ _ us hl => match us, hl with | [_], _ => rfl
  have F12 := fun_mk (st := st__law_odd) l12 c12 k12
  have b12 := F12.binds (ps := ["_law_deck_here"]) fun _ _ _ _ _ _ us hl => match us, hl with | [_], _ => rfl
  have F13 := fun_mk (st := st__law_changed) l13 c13 k13
  have b13 := F13.binds (ps := ["_law_deck_here", "_law_value"]) fun _ _ _ _ _ _ us hl => match us, hl with | [_, _], _ => rfl
  have F14 := fun_mk (st := st__law_whole) l14 c14 k14
  have b14 := F14.binds (ps := ["_law_value"]) fun _ _ _ _ _ _ us hl => match us, hl with | [_], _ => rfl
  have F15 := fun_mk (st := st__law_is_schedule) l15 c15 k15
  have b15 := F15.binds (ps := ["_law_roster", "_law_value"]) fun _ _ _ _ _ _ us hl => match us, hl with | [_, _], _ => rfl
  have F16 := fun_mk (st := st__law_degrees) l16 c16 k16
  have b16 := F16.binds (ps := ["_law_roster"]) fun _ _ _ _ _ _ us hl => match us, hl with | [_], _ => rfl
  have F17 := fun_mk (st := st__law_is_reason) l17 c17 k17
  have b17 := F17.binds (ps := ["_law_roster", "_law_rooms_here", "_law_hours", "_law_value"]) fun _ _ _ _ _ _ us hl => match us, hl with | [_, _, _, _], _ => rfl
  have F18 := fun_mk (st := st__law_due) l18 c18 k18
  have b18 := F18.binds (ps := ["_law_roster", "_law_rooms_here", "_law_value"]) fun _ _ _ _ _ _ us hl => match us, hl with | [_, _, _], _ => rfl
  have F19 := fun_mk (st := st_is_number) l19 c19 k19
  have b19 := F19.binds (ps := ["value", "low", "high"]) fun _ _ _ _ _ _ us hl => match us, hl with | [_, _, _], _ => rfl
  have F20 := fun_mk (st := st_is_hour) l20 c20 k20
  have b20 := F20.binds (ps := ["value"]) fun _ _ _ _ _ _ us hl => match us, hl with | [_], _ => rfl
  have F21 := fun_mk (st := st_are_rivals) l21 c21 k21
  have b21 := F21.binds (ps := ["roster", "one", "other"]) fun _ _ _ _ _ _ us hl => match us, hl with | [_, _, _], _ => rfl
  have F22 := fun_mk (st := st_schedule_error) l22 c22 k22
  have b22 := F22.binds (ps := ["roster", "value"]) fun _ _ _ _ _ _ us hl => match us, hl with | [_, _], _ => rfl
  have F23 := fun_mk (st := st_is_schedule) l23 c23 k23
  have b23 := F23.binds (ps := ["roster", "value"]) fun _ _ _ _ _ _ us hl => match us, hl with | [_, _], _ => rfl
  have F24 := fun_mk (st := st_lessons_of) l24 c24 k24
  have b24 := F24.binds (ps := ["roster", "side", "person"]) fun _ _ _ _ _ _ us hl => match us, hl with | [_, _, _], _ => rfl
  have F25 := fun_mk (st := st_degrees) l25 c25 k25
  have b25 := F25.binds (ps := ["roster"]) fun _ _ _ _ _ _ us hl => match us, hl with | [_], _ => rfl
  have F26 := fun_mk (st := st_is_reason) l26 c26 k26
  have b26 := F26.binds (ps := ["roster", "rooms", "hours", "value"]) fun _ _ _ _ _ _ us hl => match us, hl with | [_, _, _, _], _ => rfl
  have F27 := fun_mk (st := st_rooms_holds) l27 c27 k27
  have b27 := F27.binds (ps := ["roster", "rooms", "value"]) fun _ _ _ _ _ _ us hl => match us, hl with | [_, _, _], _ => rfl
  have F28 := fun_mk (st := st_law) l28 c28 k28
  refine ⟨PySem.W.fnOf "law" "law" (defArgs st_law) (defBody st_law) (defScope st_law) .none kV28 dc28 pm28 an28 cd28 ct28, fun s v => .of_eq rfl, fun base _ _ => ?_⟩
  have y_abs := PySem.W.mg_none_of X G z_abs
  have y_len := PySem.W.mg_none_of X G z_len
  have y_int := PySem.W.mg_none_of X G z_int
  have y_list := PySem.W.mg_none_of X G z_list
  have y_range := PySem.W.mg_none_of X G z_range
  have y_zip := PySem.W.mg_none_of X G z_zip
  have y_tuple := PySem.W.mg_none_of X G z_tuple
  have y_sorted := PySem.W.mg_none_of X G z_sorted
  have y_set := PySem.W.mg_none_of X G z_set
  have y_min := PySem.W.mg_none_of X G z_min
  have y_isinstance := PySem.W.mg_none_of X G z_isinstance
  have y_bool := PySem.W.mg_none_of X G z_bool
  have y_str := PySem.W.mg_none_of X G z_str
  have y_repr := PySem.W.mg_none_of X G z_repr
  have y_max := PySem.W.mg_none_of X G z_max
  have y_all := PySem.W.mg_none_of X G z_all
  have y_enumerate := PySem.W.mg_none_of X G z_enumerate
  have h_LAST_HOUR := PySem.W.mg_of X G g_LAST_HOUR
  have h_ROOMS := PySem.W.mg_of X G g_ROOMS
  have h_NONE := PySem.W.mg_of X G g_NONE
  have C__law_deck := cal__law_deck (P := l.prog) (w := w) (base := base) (mg := mg) y_abs y_len F1 (PySem.W.mg_of X G a1) b1
  have C__law_next := cal__law_next (P := l.prog) (w := w) (base := base) (mg := mg) y_int F2 (PySem.W.mg_of X G a2) b2
  have C__law_shuffled := cal__law_shuffled (P := l.prog) (w := w) (base := base) (mg := mg) C__law_next y_list y_len F3 (PySem.W.mg_of X G a3) b3
  have C__law_planned := cal__law_planned (P := l.prog) (w := w) (base := base) (mg := mg) C__law_next C__law_shuffled y_range y_list y_zip y_tuple F4 (PySem.W.mg_of X G a4) b4
  have C__law_numbers := cal__law_numbers (P := l.prog) (w := w) (base := base) (mg := mg) y_sorted y_set y_len F5 (PySem.W.mg_of X G a5) b5
  have C__law_one := cal__law_one (P := l.prog) (w := w) (base := base) (mg := mg) C__law_next y_len F6 (PySem.W.mg_of X G a6) b6
  have C__law_rooms := cal__law_rooms (P := l.prog) (w := w) (base := base) (mg := mg) C__law_next F7 (PySem.W.mg_of X G a7) b7
  have C__law_are_rivals := cal__law_are_rivals (P := l.prog) (w := w) (base := base) (mg := mg)  F8 (PySem.W.mg_of X G a8) b8
  have C__law_compact := cal__law_compact (P := l.prog) (w := w) (base := base) (mg := mg) C__law_are_rivals y_range y_len y_min F9 (PySem.W.mg_of X G a9) b9
  have C__law_spread := cal__law_spread (P := l.prog) (w := w) (base := base) (mg := mg) C__law_next C__law_shuffled y_range y_tuple F10 (PySem.W.mg_of X G a10) b10
  have C__law_reasons := cal__law_reasons (P := l.prog) (w := w) (base := base) (mg := mg) y_zip y_range F11 (PySem.W.mg_of X G a11) b11
  have C__law_odd := cal__law_odd (P := l.prog) (w := w) (base := base) (mg := mg) C__law_next F12 (PySem.W.mg_of X G a12) b12
  have C__law_changed := cal__law_changed (P := l.prog) (w := w) (base := base) (mg := mg) C__law_next C__law_odd y_isinstance y_tuple y_len y_list y_int y_bool y_str F13 (PySem.W.mg_of X G a13) b13 12
  have C__law_whole := cal__law_whole (P := l.prog) (w := w) (base := base) (mg := mg) y_isinstance y_int y_bool F14 (PySem.W.mg_of X G a14) b14
  have C__law_is_schedule := cal__law_is_schedule (P := l.prog) (w := w) (base := base) (mg := mg) C__law_whole C__law_are_rivals y_isinstance y_tuple y_len y_range F15 (PySem.W.mg_of X G a15) b15
  have C__law_degrees := cal__law_degrees (P := l.prog) (w := w) (base := base) (mg := mg) y_range y_len F16 (PySem.W.mg_of X G a16) b16
  have C__law_is_reason := cal__law_is_reason (P := l.prog) (w := w) (base := base) (mg := mg) C__law_whole C__law_degrees y_isinstance y_tuple y_str y_list y_len F17 (PySem.W.mg_of X G a17) b17
  have C__law_due := cal__law_due (P := l.prog) (w := w) (base := base) (mg := mg) C__law_is_schedule C__law_numbers C__law_is_reason y_repr y_isinstance y_tuple y_len y_max F18 (PySem.W.mg_of X G a18) b18
  have C_is_number := cal_is_number (P := l.prog) (w := w) (base := base) (mg := mg) y_isinstance y_int y_bool F19 (PySem.W.mg_of X G a19) b19
  have C_is_hour := cal_is_hour (P := l.prog) (w := w) (base := base) (mg := mg) C_is_number h_LAST_HOUR F20 (PySem.W.mg_of X G a20) b20
  have C_are_rivals := cal_are_rivals (P := l.prog) (w := w) (base := base) (mg := mg)  F21 (PySem.W.mg_of X G a21) b21
  have C_schedule_error := cal_schedule_error (P := l.prog) (w := w) (base := base) (mg := mg) C_is_hour C_are_rivals y_len y_isinstance y_tuple y_all y_range F22 (PySem.W.mg_of X G a22) b22
  have C_is_schedule := cal_is_schedule (P := l.prog) (w := w) (base := base) (mg := mg) C_schedule_error F23 (PySem.W.mg_of X G a23) b23
  have C_lessons_of := cal_lessons_of (P := l.prog) (w := w) (base := base) (mg := mg) y_enumerate F24 (PySem.W.mg_of X G a24) b24
  have C_degrees := cal_degrees (P := l.prog) (w := w) (base := base) (mg := mg) C_lessons_of y_tuple y_range y_len F25 (PySem.W.mg_of X G a25) b25
  have C_is_reason := cal_is_reason (P := l.prog) (w := w) (base := base) (mg := mg) C_degrees C_is_number y_isinstance y_tuple y_str y_len y_int h_ROOMS k_ROOMS F26 (PySem.W.mg_of X G a26) b26
  have C_rooms_holds := cal_rooms_holds (P := l.prog) (w := w) (base := base) (mg := mg) C_is_schedule C_is_reason y_isinstance y_tuple y_len y_sorted y_set y_max h_NONE k_NONE F27 (PySem.W.mg_of X G a27) b27
  exact fn_law C__law_deck C__law_planned C__law_next C__law_numbers C__law_one C__law_rooms C__law_compact C__law_spread C__law_reasons C__law_changed C__law_odd C__law_due C_rooms_holds y_range y_max y_repr F28
end LK

open PySem PySem.W PyProof.Rows
set_option maxHeartbeats 0 in
theorem PySem.Challenge.cw_listedges_k51_rooms_judged_holds : PySem.Challenge.rw_listedges_k51_rooms_judged.Holds := by
  w_on; o_law; k_head; (case hw => w_witness2)
  k_fill
  refine DL.walk_ofG (l := PySem.Challenge.rw_listedges_k51_rooms_judged) (n := 63) (k := 15) (x := "_law_script") (Fn := LK.F_law) rfl (by decide) rfl ⟨rfl, by decide, by decide⟩ (fun w h Y => PySem.W.kIn_of Y) ?F (fun ns h => LK.law_true ns h)
  case F =>
    intro w mg fa h KX G hmg
    refine' LK.all_mk KX G hmg ?a1 ?l1 ?c1 ?k1 ?a2 ?l2 ?c2 ?k2 ?a3 ?l3 ?c3 ?k3 ?a4 ?l4 ?c4 ?k4 ?a5 ?l5 ?c5 ?k5 ?a6 ?l6 ?c6 ?k6 ?a7 ?l7 ?c7 ?k7 ?a8 ?l8 ?c8 ?k8 ?a9 ?l9 ?c9 ?k9 ?a10 ?l10 ?c10 ?k10 ?a11 ?l11 ?c11 ?k11 ?a12 ?l12 ?c12 ?k12 ?a13 ?l13 ?c13 ?k13 ?a14 ?l14 ?c14 ?k14 ?a15 ?l15 ?c15 ?k15 ?a16 ?l16 ?c16 ?k16 ?a17 ?l17 ?c17 ?k17 ?a18 ?l18 ?c18 ?k18 ?a19 ?l19 ?c19 ?k19 ?a20 ?l20 ?c20 ?k20 ?a21 ?l21 ?c21 ?k21 ?a22 ?l22 ?c22 ?k22 ?a23 ?l23 ?c23 ?k23 ?a24 ?l24 ?c24 ?k24 ?a25 ?l25 ?c25 ?k25 ?a26 ?l26 ?c26 ?k26 ?a27 ?l27 ?c27 ?k27 ?a28 ?l28 ?c28 ?k28 ?z_abs ?z_len ?z_int ?z_list ?z_range ?z_zip ?z_tuple ?z_sorted ?z_set ?z_min ?z_isinstance ?z_bool ?z_str ?z_repr ?z_max ?z_all ?z_enumerate ?g_LAST_HOUR ?g_ROOMS ?k_ROOMS ?g_NONE ?k_NONE
    (case a1 => k_is); (case l1 => k_is); (case c1 => k_is); (case k1 => k_is); (case a2 => k_is); (case l2 => k_is); (case c2 => k_is); (case k2 => k_is); (case a3 => k_is); (case l3 => k_is); (case c3 => k_is); (case k3 => k_is); (case a4 => k_is); (case l4 => k_is); (case c4 => k_is); (case k4 => k_is); (case a5 => k_is); (case l5 => k_is); (case c5 => k_is); (case k5 => k_is); (case a6 => k_is); (case l6 => k_is); (case c6 => k_is); (case k6 => k_is); (case a7 => k_is); (case l7 => k_is); (case c7 => k_is); (case k7 => k_is); (case a8 => k_is); (case l8 => k_is); (case c8 => k_is); (case k8 => k_is); (case a9 => k_is); (case l9 => k_is); (case c9 => k_is); (case k9 => k_is); (case a10 => k_is); (case l10 => k_is); (case c10 => k_is); (case k10 => k_is); (case a11 => k_is); (case l11 => k_is); (case c11 => k_is); (case k11 => k_is); (case a12 => k_is); (case l12 => k_is); (case c12 => k_is); (case k12 => k_is); (case a13 => k_is); (case l13 => k_is); (case c13 => k_is); (case k13 => k_is); (case a14 => k_is); (case l14 => k_is); (case c14 => k_is); (case k14 => k_is); (case a15 => k_is); (case l15 => k_is); (case c15 => k_is); (case k15 => k_is); (case a16 => k_is); (case l16 => k_is); (case c16 => k_is); (case k16 => k_is); (case a17 => k_is); (case l17 => k_is); (case c17 => k_is); (case k17 => k_is); (case a18 => k_is); (case l18 => k_is); (case c18 => k_is); (case k18 => k_is); (case a19 => k_is); (case l19 => k_is); (case c19 => k_is); (case k19 => k_is); (case a20 => k_is); (case l20 => k_is); (case c20 => k_is); (case k20 => k_is); (case a21 => k_is); (case l21 => k_is); (case c21 => k_is); (case k21 => k_is); (case a22 => k_is); (case l22 => k_is); (case c22 => k_is); (case k22 => k_is); (case a23 => k_is); (case l23 => k_is); (case c23 => k_is); (case k23 => k_is); (case a24 => k_is); (case l24 => k_is); (case c24 => k_is); (case k24 => k_is); (case a25 => k_is); (case l25 => k_is); (case c25 => k_is); (case k25 => k_is); (case a26 => k_is); (case l26 => k_is); (case c26 => k_is); (case k26 => k_is); (case a27 => k_is); (case l27 => k_is); (case c27 => k_is); (case k27 => k_is); (case a28 => k_is); (case l28 => k_is); (case c28 => k_is); (case k28 => k_is); (case z_abs => k_is); (case z_len => k_is); (case z_int => k_is); (case z_list => k_is); (case z_range => k_is); (case z_zip => k_is); (case z_tuple => k_is); (case z_sorted => k_is); (case z_set => k_is); (case z_min => k_is); (case z_isinstance => k_is); (case z_bool => k_is); (case z_str => k_is); (case z_repr => k_is); (case z_max => k_is); (case z_all => k_is); (case z_enumerate => k_is); (case g_LAST_HOUR => k_is); (case g_ROOMS => k_is); (case k_ROOMS => k_is); (case g_NONE => k_is); (case k_NONE => k_is)
