import PyProof.Rows.All
import Wide.All
import OpenK.AllK
import Wide.FinOn
import HandS.ForMost
import HandS.IsInst
import HandS.TupAny
import HandS.TupMul
import HandS.Wide
import HandS.Conv
import HandS.List
import HandS.SortInts
import HandS.Walk
import HandS.Zip
import HandS.Rev
import KE.DataMinMax
import KE.DataAny
import KE.DataFind
import KE.DataIsa
import KE.DataCmp
import KE.DataEq
import KE.SortData
import KE.DatumIndex
import KE.KTupSum
import KE.GoesEnum
import HandS.Style
import HandS.RaiseMore
import HandS.Flow
import HandS.Dict
import HandS.SetFor
import HandS.DictComp
import HandS.Iter
import KE.GoesMore
import HandS.NoneIn
import HandS.ExcInit
import HandS.ExcInitHot
import HandS.ExcCtx
import HandS.ExcField
import HandS.ExcOwn
import HandS.WordsExc
import HandS.TryOnly
import HandS.TryMany
import KE.KExcIs
import HandS.ExcIs
import KE.KDictList
import KE.KDictDisplayH
import HandS.TupSets
import HandS.Set
import PyProof.SumAny
import PyProof.WalksMore
import PyProof.Rows.TupAdd
import PyProof.Rows.TupIter
import PyProof.AutoSeq1
import KE.KExcInit
import PyProof.ExcBaseAll.LookupError
import KE.KTryMore
import KE.KSmall
import HandS.DictEq
import HandS.SlotsOwn
import PyProof.CallStr
import HandS.FStr
import HandS.DictTup
import HandS.Defaults
import HandS.Text
import HandS.More
import HandS.HotCalls
import HandS.Head0
import HandS.Head1
import HandS.Head2
import HandS.HeadHook1
import HandS.HeadHook2
import HandS.HeadHook3
import HandS.HeadHook4
import PySem.Challenge.RW_listedges_k59_whole_rosters_built
set_option Elab.async false
set_option linter.all false
set_option maxRecDepth 100000
set_option maxHeartbeats 4000000
theorem oBs {α β : Type} {o : Option α} {f : α → Option β} {b : β} (h : o.bind f = some b) : ∃ a, o = some a ∧ f a = some b := Option.bind_eq_some_iff.mp h
namespace DL
open PySem L2 PySem.Spec
inductive Ty where
  | u | s | q | d | l (t : Ty) | r (ts : List Ty) | e (a : Addr) (dx : Option Addr) (fs : List (Str × V)) (c : Str) | k (v : V) (t : Ty) | a (v : V) | t | o (C : Addr) (ns : List Str) (ts : List Ty) | f (C : Addr) (ns : List Str) | x (a : Addr) (o : Obj) (kvs : List (Int × V))
def NdT (K : PySem.W.Frag) (G : Hp) (a : Addr) (xs : List V) : Prop :=
  (∃ o : Obj, o.cls = .type "tuple" ∧ o.dict = none ∧ G a = some (.frz o (.tup xs))) ∨
    ∃ (o : Obj) (its : Array Value) (n : Nat), K.lookup a = some o ∧ o.cls = .type "tuple" ∧ o.dict = none ∧ o.data = .seq its n ∧ its.size ≤ sizeLine ∧ Vals xs its.toList
theorem NdT.sq {K : PySem.W.Frag} {G : Hp} {a : Addr} {xs : List V} (h : NdT K G a xs) : SqT K G a xs := by
  rcases h with ⟨o, _, _, h⟩ | ⟨o, its, n, h1, h2, _, h3, h4, h5⟩
  · exact .inl (.inr ⟨o, h⟩)
  · exact .inr ⟨o, its, n, h1, h2, h3, h4, h5⟩
def NewT (H : Hp) (xs : List V) (Q : VK) : Prop := ∀ (p : Addr) (o : Obj), o.cls = .type "tuple" → o.dict = none → H p = none → Q (.ref p) (upd H p (.frz o (.tup xs)))
def obT : Option Addr → PyData
  | none => .none
  | some a => .int (a : Nat)
def obD (o : Option Addr) (cn : Str) (ns : List Str) (ds : List PyData) : PyData := .dict [(.tuple [obT o, .int (2 ^ 2000)], .tuple [.str cn, .tuple (ns.map .str), .list ds])]
def isOb : PyData → Bool
  | .dict [(.tuple _, _)] => true
  | _ => false
def isDct : PyData → Bool
  | .dict kvs => !isOb (.dict kvs)
  | _ => false
def obTys : List String := ["int", "str", "tuple", "list", "dict", "bool", "set"]
structure CnK (K : PySem.W.Frag) (cn : Str) (C : Addr) : Prop where
  ns : PySem.W.nsIn K mainGlobals cn = some (some (.ref C))
  cl : Cls K C
  ca : PySem.W.findIn K (.ref C) "__class__" = some (some (.builtin "object.__class__"))
  cg : PySem.W.specialIn K (.builtin "object.__class__") "__get__" = some (some (.builtin "getset_descriptor.__get__"))
  ct : PySem.W.takesIn K (.builtin "object.__class__") = some true
  cm : PySem.W.mroIn K C (.type "object") = some true
  ty : ∀ T ∈ obTys, PySem.W.kitOne K (.ref C) (.type T) = some false
def ftS : Nat → PyData → Bool
  | _, .none => true
  | _, .bool _ => true
  | _, .int _ => true
  | _, .str _ => true
  | n + 1, .tuple xs => xs.all (ftS n)
  | _, _ => false
inductive Dq (K : PySem.W.Frag) (G : Hp) : V → PyData → Prop
  | non : Dq K G .non .none
  | bl (b : Bool) : Dq K G (.bl b) (.bool b)
  | int (i : Int) : Dq K G (.int i) (.int i)
  | str (x : Str) : x.length ≤ sizeLine → Dq K G (.str x) (.str x)
  | lst {a : Addr} {xs : List V} {ds : List PyData} : Rd G a (.lst xs) → xs.length = ds.length → xs.length ≤ sizeLine → (∀ (i : Nat) (v : V) (d : PyData), xs[i]? = some v → ds[i]? = some d → Dq K G v d) → Dq K G (.ref a) (.list ds)
  | tup {a : Addr} {xs : List V} {ds : List PyData} : NdT K G a xs → xs.length = ds.length → xs.length ≤ sizeLine → (∀ (i : Nat) (v : V) (d : PyData), xs[i]? = some v → ds[i]? = some d → Dq K G v d) → Dq K G (.ref a) (.tuple ds)
  | dic {a : Addr} {kvs : List (Str × Int)} : Rd G a (.dK (kvs.map fun p => (Sum.inr p.1, V.int p.2))) → kvs.length ≤ 15 → (kvs = [] → G a = some (.dK [])) → Dq K G (.ref a) (.dict (kvs.map fun p => (.str p.1, .int p.2)))
  | dv {a : Addr} {k : Str} {v : V} {d : PyData} : Rd G a (.dK [(Sum.inr k, v)]) → ftS 3 d = true → Dq K G v d → Dq K G (.ref a) (.dict [(.str k, d)])
  | ob {a C dx : Addr} {fs : List (Str × V)} {ds : List PyData} (o : Option Addr) (cn : Str) : CnK K cn C → G a = some (.ins C dx fs) → (∀ b, o = some b → b = a) → (fs.map (·.2)).length = ds.length → (∀ (i : Nat) (v : V) (d : PyData), (fs.map (·.2))[i]? = some v → ds[i]? = some d → Dq K G v d) → Dq K G (.ref a) (obD o cn (fs.map (·.1)) ds)
def DqA (K : PySem.W.Frag) (G : Hp) (xs : List V) (ds : List PyData) : Prop := xs.length = ds.length ∧ ∀ (i : Nat) (v : V) (d : PyData), xs[i]? = some v → ds[i]? = some d → Dq K G v d
section
variable {K : PySem.W.Frag} {G G' H H' : Hp}
theorem same_rd {a : Addr} {u : HO} (e : Same G G') (h : Rd G a u) : Rd G' a u := by
  rcases h with h | ⟨o, h⟩
  · exact .inl (e _ _ h)
  · exact .inr ⟨o, e _ _ h⟩
theorem same_seqT {a : Addr} {xs : List V} (e : Same G G') (h : SqT K G a xs) : SqT K G' a xs := by
  rcases h with (h | ⟨o, h⟩) | h
  · exact .inl (.inl (e _ _ h))
  · exact .inl (.inr ⟨o, e _ _ h⟩)
  · exact .inr h
theorem same_ndT {a : Addr} {xs : List V} (e : Same G G') (h : NdT K G a xs) : NdT K G' a xs := by
  rcases h with ⟨o, h1, h2, h⟩ | h
  · exact .inl ⟨o, h1, h2, e _ _ h⟩
  · exact .inr h
theorem same_seqL {a : Addr} {xs : List V} (e : Same G G') (h : SqL K G a xs) : SqL K G' a xs := h.imp (same_rd e) id
theorem Dq.mono (e : Same G G') {v : V} {d : PyData} (h : Dq K G v d) : Dq K G' v d := by
  induction h with
  | non => exact .non
  | bl b => exact .bl b
  | int i => exact .int i
  | str x hx => exact .str x hx
  | lst hs hl hz _ ih => exact .lst (same_rd e hs) hl hz ih
  | tup hs hl hz _ ih => exact .tup (same_ndT e hs) hl hz ih
  | dic hs hz h0 => exact .dic (same_rd e hs) hz fun q => e _ _ (h0 q)
  | ob o cn h1 h2 h3 hl _ ih => exact .ob o cn h1 (e _ _ h2) h3 hl ih
  | dv h1 h2 _ ih => exact .dv (same_rd e h1) h2 ih
theorem DqA.mono (e : Same G G') {xs : List V} {ds : List PyData} (h : DqA K G xs ds) : DqA K G' xs ds := ⟨h.1, fun i v d a b => (h.2 i v d a b).mono e⟩
theorem DqA.nil : DqA K G [] [] := ⟨rfl, fun i v d h _ => by simp at h⟩
theorem DqA.cons {v : V} {d : PyData} {vs : List V} {ds : List PyData} (h : Dq K G v d) (t : DqA K G vs ds) : DqA K G (v :: vs) (d :: ds) := by
  refine ⟨by simp [t.1], fun i x y hx hy => ?_⟩
  cases i with
  | zero => simp at hx hy; subst hx; subst hy; exact h
  | succ i => simp at hx hy; exact t.2 i x y hx hy
theorem DqA.head {v : V} {d : PyData} {vs : List V} {ds : List PyData} (h : DqA K G (v :: vs) (d :: ds)) : Dq K G v d := h.2 0 v d rfl rfl
theorem DqA.tail {v : V} {d : PyData} {vs : List V} {ds : List PyData} (h : DqA K G (v :: vs) (d :: ds)) : DqA K G vs ds :=
  ⟨by have := h.1; simpa using this, fun i x y hx hy => h.2 (i + 1) x y (by simpa using hx) (by simpa using hy)⟩
theorem DqA.append {vs ws : List V} {ds es : List PyData} (h : DqA K G vs ds) (t : DqA K G ws es) : DqA K G (vs ++ ws) (ds ++ es) := by
  refine ⟨by simp [h.1, t.1], fun i x y hx hy => ?_⟩
  by_cases hi : i < vs.length
  · rw [List.getElem?_append_left hi] at hx
    rw [List.getElem?_append_left (by rw [← h.1]; exact hi)] at hy
    exact h.2 i x y hx hy
  · rw [List.getElem?_append_right (by omega)] at hx
    rw [List.getElem?_append_right (by rw [← h.1]; omega), ← h.1] at hy
    exact t.2 _ x y hx hy
theorem DqA.get {vs : List V} {ds : List PyData} (h : DqA K G vs ds) {i : Nat} {d : PyData} (e : ds[i]? = some d) : ∃ v, vs[i]? = some v ∧ Dq K G v d := by
  have hi : i < vs.length := by rw [h.1]; exact (List.getElem?_eq_some_iff.mp e).1
  exact ⟨vs[i], List.getElem?_eq_getElem hi, h.2 i _ _ (List.getElem?_eq_getElem hi) e⟩
end
def hTI (ks : List Int) : Int := reduceHash (Builtin.Tuple.tupleHashOf (ks.map hashInt))
def DTt (a : Addr) (kvs : List (List Int × Addr × V)) (h : Heap) : Prop :=
  (a == sysModules) = false ∧ (kvs.map (·.1)).Nodup ∧ ∃ xs : List (List Int × Addr × Value), xs.length = kvs.length ∧
    (∀ (i : Nat) (p : List Int × Addr × V) (q : List Int × Addr × Value), kvs[i]? = some p → xs[i]? = some q → p.1 = q.1 ∧ p.2.1 = q.2.1 ∧ RelV p.2.2 q.2.2) ∧
    ∃ (o : Obj) (es : Array DictEntry) (ep : Nat), h.get? a = some o ∧ o.ExactDict ∧ o.data = .dict es ep ∧ es.toList = xs.map fun x => (⟨hTI x.1, .ref x.2.1, x.2.2⟩ : DictEntry)
mutual
inductive Own (K : PySem.W.Frag) (G H : Hp) : Ty → PyData → Option V → List Addr → Prop
  | u (d : PyData) (v : Option V) : Own K G H .u d v []
  | s {d : PyData} {v : V} : Dq K G v d → Own K G H .s d (some v) []
  | q {a : Addr} {ns : List Int} : SqL K G a (ns.map V.int) → ns.length ≤ sizeLine → Own K G H .q (.list (ns.map PyData.int)) (some (.ref a)) []
  | d {a : Addr} {kvs : List (Int × V)} {ds : List (Int × PyData)} : G a = none → H a = some (.dK (kvs.map fun p => ((Sum.inl p.1 : Key), p.2))) → kvs.map (·.1) = ds.map (·.1) → DqA K G (kvs.map (·.2)) (ds.map (·.2)) → kvs.length ≤ sizeLine → Own K G H .d (.dict (ds.map fun p => (.int p.1, p.2))) (some (.ref a)) [a]
  | l {t : Ty} {a : Addr} {vs : List V} {ds : List PyData} {A : List Addr} : G a = none → H a = some (.lst vs) → vs.length ≤ sizeLine → OwnA K G H (List.replicate ds.length t) ds (vs.map some) A → Own K G H (.l t) (.list ds) (some (.ref a)) (a :: A)
  | r {ts : List Ty} {a : Addr} {vs : List V} {ds : List PyData} {A : List Addr} : G a = none → H a = some (.lst vs) → vs.length ≤ sizeLine → OwnA K G H ts ds (vs.map some) A → Own K G H (.r ts) (.list ds) (some (.ref a)) (a :: A)
  | e {a : Addr} {dx : Option Addr} {fs : List (Str × V)} {c : Str} {ds : List PyData} : (∀ x, dx = some x → G x = some (.xd fs)) → DqA K G (fs.map (·.2)) ds → Own K G H (.e a dx fs c) (.tuple (.str c :: ds)) (some (.ref a)) []
  | k {t : Ty} {d : PyData} {v : V} {A : List Addr} : Own K G H t d (some v) A → Own K G H (.k v t) d (some v) A
  | a (d : PyData) (v : V) : Own K G H (.a v) d (some v) []
  | t {a : Addr} {kvs : List (List Int × Addr × V)} {ds : List (List Int × PyData)} : G a = none → H a = some (.ext (DTt a kvs)) → kvs.map (·.1) = ds.map (·.1) → (∀ p ∈ kvs, Dq K G (.ref p.2.1) (.tuple (p.1.map .int))) → DqA K G (kvs.map (·.2.2)) (ds.map (·.2)) → kvs.length ≤ sizeLine → Own K G H .t (.dict (ds.map fun p => (.tuple (p.1.map .int), p.2))) (some (.ref a)) [a]
  | o {C dx a : Addr} {ns : List Str} {ts : List Ty} {fs : List (Str × V)} {ds : List PyData} {A : List Addr} : G a = none → G dx = none → H a = some (.ins C dx fs) → H dx = some (.own a) → fs.map (·.1) = ns → OwnA K G H ts ds (fs.map fun p => some p.2) A → Own K G H (.o C ns ts) (.list ds) (some (.ref a)) (a :: dx :: A)
  | f {C dx a : Addr} {ns : List Str} {fs : List (Str × V)} {ds : List PyData} : G a = some (.ins C dx fs) → fs.map (·.1) = ns → DqA K G (fs.map (·.2)) ds → Own K G H (.f C ns) (.list ds) (some (.ref a)) []
  | x {a : Addr} {o : Obj} {kvs : List (Int × V)} {ds : List (Int × PyData)} : G a = some (.frz o (.dK (kvs.map fun p => ((Sum.inl p.1 : Key), p.2)))) → kvs.map (·.1) = ds.map (·.1) → DqA K G (kvs.map (·.2)) (ds.map (·.2)) → kvs.length ≤ sizeLine → Own K G H (.x a o kvs) (.dict (ds.map fun p => (.int p.1, p.2))) (some (.ref a)) []
inductive OwnA (K : PySem.W.Frag) (G H : Hp) : List Ty → List PyData → List (Option V) → List Addr → Prop
  | nil : OwnA K G H [] [] [] []
  | cons {t : Ty} {ts : List Ty} {d : PyData} {ds : List PyData} {v : Option V} {vs : List (Option V)} {A B : List Addr} : Own K G H t d v A → OwnA K G H ts ds vs B → OwnA K G H (t :: ts) (d :: ds) (v :: vs) (A ++ B)
end
section
variable {K : PySem.W.Frag} {G G' H H' : Hp}
theorem own_at {t : Ty} {d : PyData} {v : Option V} {A : List Addr} (h : Own K G H t d v A) : ∀ a ∈ A, G a = none ∧ ∃ o, H a = some o := by
  refine Own.rec (K := K) (G := G) (H := H) (motive_1 := fun t d v A _ => ∀ a ∈ A, G a = none ∧ ∃ o, H a = some o) (motive_2 := fun ts ds vs A _ => ∀ a ∈ A, G a = none ∧ ∃ o, H a = some o) ?_ ?_ ?_ ?_ ?_ ?_ ?_ ?_ ?_ ?_ ?_ ?_ ?_ ?_ ?_ h
  · intro d v a ha; cases ha
  · intro d v _ a ha; cases ha
  · intro a ns _ _ b hb; cases hb
  · intro a kvs ds h1 h2 _ _ _ b hb
    rw [List.mem_singleton.mp hb]
    exact ⟨h1, _, h2⟩
  · intro t a vs ds A h1 h2 _ _ ih b hb
    rcases List.mem_cons.mp hb with rfl | hb
    · exact ⟨h1, _, h2⟩
    · exact ih b hb
  · intro t a vs ds A h1 h2 _ _ ih b hb
    rcases List.mem_cons.mp hb with rfl | hb
    · exact ⟨h1, _, h2⟩
    · exact ih b hb
  · intro a dx fs c ds _ _ b hb; cases hb
  · intro t d v A _ ih; exact ih
  · intro d v b hb; cases hb
  · intro a kvs ds h1 h2 _ _ _ _ b hb
    rw [List.mem_singleton.mp hb]
    exact ⟨h1, _, h2⟩
  · intro C dx a ns ts fs ds A h1 h2 h3 h4 _ _ ih b hb
    rcases List.mem_cons.mp hb with rfl | hb
    · exact ⟨h1, _, h3⟩
    · rcases List.mem_cons.mp hb with rfl | hb
      · exact ⟨h2, _, h4⟩
      · exact ih b hb
  · intro C dx a ns fs ds _ _ _ b hb; cases hb
  · intro a o kvs ds _ _ _ _ b hb; cases hb
  · intro a ha; cases ha
  · intro t ts d ds v vs A B _ _ i1 i2 a ha
    rcases List.mem_append.mp ha with ha | ha
    · exact i1 a ha
    · exact i2 a ha
theorem ownA_at {t : List Ty} {d : List PyData} {v : List (Option V)} {A : List Addr} (h : OwnA K G H t d v A) : ∀ a ∈ A, G a = none ∧ ∃ o, H a = some o := by
  induction t generalizing d v A with
  | nil => cases h; intro a ha; cases ha
  | cons t ts ih =>
    cases h with
    | cons h1 h2 =>
      intro a ha
      rcases List.mem_append.mp ha with ha | ha
      · exact own_at h1 a ha
      · exact ih h2 a ha
theorem own_fr {t : Ty} {d : PyData} {v : Option V} {A : List Addr} (h : Own K G H t d v A) (e : Same G G') (hg : ∀ a ∈ A, G' a = none) (hh : ∀ a ∈ A, H' a = H a) : Own K G' H' t d v A := by
  refine Own.rec (K := K) (G := G) (H := H) (motive_1 := fun t d v A _ => (∀ a ∈ A, G' a = none) → (∀ a ∈ A, H' a = H a) → Own K G' H' t d v A) (motive_2 := fun t d v A _ => (∀ a ∈ A, G' a = none) → (∀ a ∈ A, H' a = H a) → OwnA K G' H' t d v A) ?_ ?_ ?_ ?_ ?_ ?_ ?_ ?_ ?_ ?_ ?_ ?_ ?_ ?_ ?_ h hg hh
  · intro d v _ _; exact .u d v
  · intro d v h _ _; exact .s (h.mono e)
  · intro a ns h hz _ _; exact .q (same_seqL e h) hz
  · intro a kvs ds h1 h2 hk q hz hg hh
    exact .d (hg a (List.mem_singleton.mpr rfl)) (by rw [hh a (List.mem_singleton.mpr rfl)]; exact h2) hk (q.mono e) hz
  · intro t a vs ds A h1 h2 hz _ ih hg hh
    exact .l (hg a (List.mem_cons_self ..)) (by rw [hh a (List.mem_cons_self ..)]; exact h2) hz (ih (fun b hb => hg b (List.mem_cons_of_mem _ hb)) fun b hb => hh b (List.mem_cons_of_mem _ hb))
  · intro t a vs ds A h1 h2 hz _ ih hg hh
    exact .r (hg a (List.mem_cons_self ..)) (by rw [hh a (List.mem_cons_self ..)]; exact h2) hz (ih (fun b hb => hg b (List.mem_cons_of_mem _ hb)) fun b hb => hh b (List.mem_cons_of_mem _ hb))
  · intro a dx fs c ds h1 h2 _ _
    exact .e (fun x hx => e _ _ (h1 x hx)) (h2.mono e)
  · intro t d v A _ ih hg hh; exact .k (ih hg hh)
  · intro d v _ _; exact .a d v
  · intro a kvs ds h1 h2 hk hq q hz hg hh
    exact .t (hg a (List.mem_singleton.mpr rfl)) (by rw [hh a (List.mem_singleton.mpr rfl)]; exact h2) hk (fun p hp => (hq p hp).mono e) (q.mono e) hz
  · intro C dx a ns ts fs ds A h1 h2 h3 h4 hn _ ih hg hh
    have m1 : a ∈ a :: dx :: A := List.mem_cons_self ..
    have m2 : dx ∈ a :: dx :: A := List.mem_cons_of_mem _ (List.mem_cons_self ..)
    have m3 : ∀ b ∈ A, b ∈ a :: dx :: A := fun b hb => List.mem_cons_of_mem _ (List.mem_cons_of_mem _ hb)
    exact .o (hg a m1) (hg dx m2) (by rw [hh a m1]; exact h3) (by rw [hh dx m2]; exact h4) hn (ih (fun b hb => hg b (m3 b hb)) fun b hb => hh b (m3 b hb))
  · intro C dx a ns fs ds h1 hn q _ _
    exact .f (e _ _ h1) hn (q.mono e)
  · intro a o kvs ds h1 hk q hz _ _
    exact .x (e _ _ h1) hk (q.mono e) hz
  · intro _ _; exact .nil
  · intro t ts d ds v vs A B _ _ i1 i2 hg hh
    exact .cons (i1 (fun b hb => hg b (List.mem_append_left _ hb)) fun b hb => hh b (List.mem_append_left _ hb)) (i2 (fun b hb => hg b (List.mem_append_right _ hb)) fun b hb => hh b (List.mem_append_right _ hb))
theorem ownA_fr {t : List Ty} {d : List PyData} {v : List (Option V)} {A : List Addr} (h : OwnA K G H t d v A) (e : Same G G') (hg : ∀ a ∈ A, G' a = none) (hh : ∀ a ∈ A, H' a = H a) : OwnA K G' H' t d v A := by
  induction t generalizing d v A with
  | nil => cases h; exact .nil
  | cons t ts ih =>
    cases h with
    | cons h1 h2 =>
      exact .cons (own_fr h1 e (fun b hb => hg b (List.mem_append_left _ hb)) fun b hb => hh b (List.mem_append_left _ hb)) (ih h2 (fun b hb => hg b (List.mem_append_right _ hb)) fun b hb => hh b (List.mem_append_right _ hb))
theorem ownA_len {t : List Ty} {d : List PyData} {v : List (Option V)} {A : List Addr} (h : OwnA K G H t d v A) : t.length = d.length ∧ v.length = d.length := by
  induction t generalizing d v A with
  | nil => cases h; exact ⟨rfl, rfl⟩
  | cons t ts ih =>
    cases h with
    | cons h1 h2 =>
      obtain ⟨a, b⟩ := ih h2
      simp only [List.length_cons]
      omega
def lay (G H : Hp) (A : List Addr) : Hp := fun a => if a ∈ A then H a else G a
theorem lay_in {A : List Addr} {a : Addr} (h : a ∈ A) : lay G H A a = H a := by unfold lay; rw [if_pos h]
theorem lay_out {A : List Addr} {a : Addr} (h : a ∉ A) : lay G H A a = G a := by unfold lay; rw [if_neg h]
end
mutual
def nou : Ty → Bool
  | .u => false
  | .s => true
  | .q => false
  | .d => false
  | .l t => nou t
  | .r ts => nouL ts
  | .e _ _ _ _ => false
  | .k _ t => nou t
  | .a _ => false
  | .t => false
  | .o _ _ _ => false
  | .f _ _ => false
  | .x _ _ _ => false
def nouL : List Ty → Bool
  | [] => true
  | t :: ts => nou t && nouL ts
end
theorem nouL_rep {t : Ty} (h : nou t = true) : ∀ n : Nat, nouL (List.replicate n t) = true
  | 0 => rfl
  | n + 1 => by
    show (nou t && nouL (List.replicate n t)) = true
    rw [h, nouL_rep h n]; rfl
section
variable {K : PySem.W.Frag} {G G' H H' : Hp}
theorem own_frz {t : Ty} {d : PyData} {v : Option V} {A : List Addr} (h : Own K G H t d v A) (e : Same G G') (hg : ∀ a ∈ A, G' a = H a) (hn : nou t = true) : ∃ x, v = some x ∧ Dq K G' x d := by
  refine Own.rec (K := K) (G := G) (H := H) (motive_1 := fun t d v A _ => (∀ a ∈ A, G' a = H a) → nou t = true → ∃ x, v = some x ∧ Dq K G' x d)
    (motive_2 := fun t d v A _ => (∀ a ∈ A, G' a = H a) → nouL t = true → ∀ vs : List V, v = vs.map some → DqA K G' vs d) ?_ ?_ ?_ ?_ ?_ ?_ ?_ ?_ ?_ ?_ ?_ ?_ ?_ ?_ ?_ h hg hn
  · intro d v _ h; exact absurd h (by simp [nou])
  · intro d v h _ _; exact ⟨_, rfl, h.mono e⟩
  · intro a ns _ _ _ h; exact absurd h (by simp [nou])
  · intro a kvs ds _ _ _ _ _ _ h; exact absurd h (by simp [nou])
  · intro t a vs ds A h1 h2 hz _ ih hg hn
    have q := ih (fun b hb => hg b (List.mem_cons_of_mem _ hb)) (nouL_rep (by simpa [nou] using hn) _) vs rfl
    have ea : G' a = some (.lst vs) := by rw [hg a (List.mem_cons_self ..)]; exact h2
    exact ⟨_, rfl, .lst (.inl ea) q.1 hz q.2⟩
  · intro t a vs ds A h1 h2 hz _ ih hg hn
    have q := ih (fun b hb => hg b (List.mem_cons_of_mem _ hb)) (by simpa [nou] using hn) vs rfl
    have ea : G' a = some (.lst vs) := by rw [hg a (List.mem_cons_self ..)]; exact h2
    exact ⟨_, rfl, .lst (.inl ea) q.1 hz q.2⟩
  · intro a dx fs c ds _ _ _ h; exact absurd h (by simp [nou])
  · intro t d v A _ ih hg hn; exact ih hg (by simpa [nou] using hn)
  · intro d v _ h; exact absurd h (by simp [nou])
  · intro a kvs ds _ _ _ _ _ _ _ h; exact absurd h (by simp [nou])
  · intro C dx a ns ts fs ds A _ _ _ _ _ _ _ _ h; exact absurd h (by simp [nou])
  · intro C dx a ns fs ds _ _ _ _ h; exact absurd h (by simp [nou])
  · intro a o kvs ds _ _ _ _ _ h; exact absurd h (by simp [nou])
  · intro _ _ vs hv
    cases vs with
    | nil => exact DqA.nil
    | cons _ _ => cases hv
  · intro t ts d ds v vs A B _ _ i1 i2 hg hn ws hw
    cases ws with
    | nil => cases hw
    | cons x ws =>
      simp only [List.map_cons, List.cons.injEq] at hw
      obtain ⟨hx, hw⟩ := hw
      simp only [nouL, Bool.and_eq_true] at hn
      obtain ⟨y, hy, q⟩ := i1 (fun b hb => hg b (List.mem_append_left _ hb)) hn.1
      rw [hx] at hy
      cases hy
      exact DqA.cons q (i2 (fun b hb => hg b (List.mem_append_right _ hb)) hn.2 ws hw)
structure Stt (K : PySem.W.Frag) (m : List Ty) (G H : Hp) (σ : St) (e : List PyData) (A : List Addr) : Prop where
  own : OwnA K G H m e σ A
  nd : A.Nodup
  sub : Same G H
structure Step (A : List Addr) (G H : Hp) (B : List Addr) (G' H' : Hp) : Prop where
  sg : Same G G'
  fr : ∀ a o, H a = some o → a ∉ A → H' a = some o
  own : ∀ a ∈ B, a ∈ A ∨ H a = none
  gnew : ∀ a, G a = none → (∃ o, G' a = some o) → a ∈ A ∨ H a = none
theorem Step.refl {A : List Addr} : Step A G H A G H := ⟨Same.refl G, fun _ _ h _ => h, fun _ h => .inl h, fun a h ⟨o, e⟩ => by rw [h] at e; cases e⟩
theorem none_or (H : Hp) (a : Addr) : H a = none ∨ ∃ o, H a = some o := by
  cases h : H a with
  | none => exact .inl rfl
  | some o => exact .inr ⟨o, rfl⟩
theorem Step.back {A B : List Addr} (s : Step A G H B G' H') {a : Addr} (h : H' a = none) : a ∈ A ∨ H a = none := by
  by_cases ha : a ∈ A
  · exact .inl ha
  · rcases none_or H a with e | ⟨o, e⟩
    · exact .inr e
    · rw [s.fr a o e ha] at h; cases h
theorem Step.seq {A Av A1 B : List Addr} {G1 H1 G2 H2 : Hp} (s1 : Step A G H (Av ++ A1) G1 H1) (o1 : ∀ a ∈ Av, G1 a = none ∧ ∃ o, H1 a = some o) (nd : (Av ++ A1).Nodup) (s2 : Step A1 G1 H1 B G2 H2) (ndB : B.Nodup) :
    Step A G H (Av ++ B) G2 H2 ∧ (Av ++ B).Nodup ∧ (∀ a ∈ Av, G2 a = none) ∧ ∀ a ∈ Av, H2 a = H1 a := by
  have dis : ∀ a ∈ Av, a ∉ A1 := fun a ha hb => (List.nodup_append.mp nd).2.2 a ha a hb rfl
  have key : ∀ a, a ∈ A1 ∨ H1 a = none → a ∈ A ∨ H a = none := fun a h => by
    rcases h with h | h
    · exact s1.own a (List.mem_append_right _ h)
    · exact s1.back h
  refine ⟨⟨s1.sg.trans s2.sg, fun a o e ha => ?_, fun a ha => ?_, fun a e e2 => ?_⟩, ?_, fun a ha => ?_, fun a ha => ?_⟩
  · refine s2.fr a o (s1.fr a o e ha) fun hb => ?_
    rcases s1.own a (List.mem_append_right _ hb) with q | q
    · exact ha q
    · rw [e] at q; cases q
  · rcases List.mem_append.mp ha with ha | ha
    · exact s1.own a (List.mem_append_left _ ha)
    · exact key a (s2.own a ha)
  · rcases none_or G1 a with e1 | e1
    · exact key a (s2.gnew a e1 e2)
    · exact s1.gnew a e e1
  · refine List.nodup_append.mpr ⟨(List.nodup_append.mp nd).1, ndB, fun a ha b hb hab => ?_⟩
    subst hab
    rcases s2.own a hb with q | q
    · exact dis a ha q
    · obtain ⟨o, e⟩ := (o1 a ha).2
      rw [e] at q; cases q
  · rcases none_or G2 a with e | e
    · exact e
    · rcases s2.gnew a (o1 a ha).1 e with q | q
      · exact absurd q (dis a ha)
      · obtain ⟨o, e⟩ := (o1 a ha).2
        rw [e] at q; cases q
  · obtain ⟨o, e⟩ := (o1 a ha).2
    rw [e, s2.fr a o e (dis a ha)]
theorem Step.seq0 {A A1 B : List Addr} {G1 H1 G2 H2 : Hp} (s1 : Step A G H A1 G1 H1) (s2 : Step A1 G1 H1 B G2 H2) : Step A G H B G2 H2 := by
  have key : ∀ a, a ∈ A1 ∨ H1 a = none → a ∈ A ∨ H a = none := fun a h => by
    rcases h with h | h
    · exact s1.own a h
    · exact s1.back h
  refine ⟨s1.sg.trans s2.sg, fun a o e ha => ?_, fun a ha => key a (s2.own a ha), fun a e e2 => ?_⟩
  · refine s2.fr a o (s1.fr a o e ha) fun hb => ?_
    rcases s1.own a hb with q | q
    · exact ha q
    · rw [e] at q; cases q
  · rcases none_or G1 a with e1 | e1
    · exact key a (s2.gnew a e1 e2)
    · exact s1.gnew a e e1
theorem Step.less {A B B' : List Addr} (s : Step A G H B G' H') (h : ∀ a ∈ B', a ∈ B) : Step A G H B' G' H' := ⟨s.sg, s.fr, fun a ha => s.own a (h a ha), s.gnew⟩
theorem new_s {A : List Addr} {m : List Ty} {σ : St} {e : List PyData} {p : Addr} {o : HO} (st : Stt K m G H σ e A) (hp : H p = none) :
    Step A G H A (upd G p o) (upd H p o) ∧ Stt K m (upd G p o) (upd H p o) σ e A ∧ Same G (upd G p o) := by
  have gp : G p = none := st.sub.free hp
  have sg : Same G (upd G p o) := fun b x hx => by rw [upd_ne (ne_of_none hx gp)]; exact hx
  have nA : ∀ a ∈ A, a ≠ p := fun a ha q => by
    obtain ⟨_, o, e⟩ := ownA_at st.own a ha
    rw [q, hp] at e; cases e
  refine ⟨⟨sg, fun a x hx _ => by rw [upd_ne (ne_of_none hx hp)]; exact hx, fun a ha => .inl ha, fun a e1 ⟨x, e2⟩ => ?_⟩, ⟨ownA_fr st.own sg (fun a ha => ?_) (fun a ha => upd_ne (nA a ha)), st.nd, fun b x hx => ?_⟩, sg⟩
  · by_cases q : a = p
    · subst q; exact .inr hp
    · rw [upd_ne q, e1] at e2; cases e2
  · rw [upd_ne (nA a ha)]; exact (ownA_at st.own a ha).1
  · by_cases q : b = p
    · subst q; rw [upd_same] at hx ⊢; exact hx
    · rw [upd_ne q] at hx ⊢; exact st.sub b x hx
theorem new_o {A B : List Addr} {m : List Ty} {σ : St} {e : List PyData} {p : Addr} {o : HO} (st : Stt K m G H σ e A) (hp : H p = none) :
    Step A G H (p :: A) G (upd H p o) ∧ Stt K m G (upd H p o) σ e A ∧ (p :: A).Nodup ∧ G p = none := by
  have gp : G p = none := st.sub.free hp
  have nA : ∀ a ∈ A, a ≠ p := fun a ha q => by
    obtain ⟨_, o, e⟩ := ownA_at st.own a ha
    rw [q, hp] at e; cases e
  refine ⟨⟨Same.refl G, fun a x hx _ => by rw [upd_ne (ne_of_none hx hp)]; exact hx, fun a ha => ?_, fun a e1 ⟨x, e2⟩ => by rw [e1] at e2; cases e2⟩,
    ⟨ownA_fr st.own (Same.refl G) (fun a ha => (ownA_at st.own a ha).1) (fun a ha => upd_ne (nA a ha)), st.nd, fun b x hx => ?_⟩, ?_, gp⟩
  · rcases List.mem_cons.mp ha with rfl | ha
    · exact .inr hp
    · exact .inl ha
  · rw [upd_ne (ne_of_none hx gp)]; exact st.sub b x hx
  · exact List.nodup_cons.mpr ⟨fun h => nA p h rfl, st.nd⟩
theorem frz {A Av : List Addr} {m : List Ty} {σ : St} {e : List PyData} (st : Stt K m G H σ e A) (hv : ∀ a ∈ Av, G a = none ∧ ∃ o, H a = some o) (nd : (Av ++ A).Nodup) :
    Step (Av ++ A) G H A (lay G H Av) H ∧ Stt K m (lay G H Av) H σ e A ∧ Same G (lay G H Av) ∧ ∀ a ∈ Av, lay G H Av a = H a := by
  have dis : ∀ a ∈ A, a ∉ Av := fun a ha hb => (List.nodup_append.mp nd).2.2 a hb a ha rfl
  have sg : Same G (lay G H Av) := fun b x hx => by
    by_cases q : b ∈ Av
    · rw [(hv b q).1] at hx; cases hx
    · rw [lay_out q]; exact hx
  refine ⟨⟨sg, fun a o h _ => h, fun a ha => .inl (List.mem_append_right _ ha), fun a e1 ⟨o, e2⟩ => ?_⟩, ⟨ownA_fr st.own sg (fun a ha => ?_) (fun _ _ => rfl), st.nd, fun b x hx => ?_⟩, sg, fun a ha => lay_in ha⟩
  · by_cases q : a ∈ Av
    · exact .inl (List.mem_append_left _ q)
    · rw [lay_out q, e1] at e2; cases e2
  · rw [lay_out (dis a ha)]; exact (ownA_at st.own a ha).1
  · by_cases q : b ∈ Av
    · rw [lay_in q] at hx; exact hx
    · rw [lay_out q] at hx; exact st.sub b x hx
end
end DL
namespace DL
open PySem L2 PySem.Spec PyProof.Rows
section
variable {X : Cx} {pins : List (Addr × Obj)} {σ : L2.St} {H : Hp} {s : Shared} {Q : VK} {xs : List V} {its : List Value} {tk : Nat}
theorem newT_ep (I : Inv X pins σ H s) (r : Vals xs its) (hz : xs.length ≤ sizeLine) (q : NewT H xs Q) : EP X pins σ Q (.ref s.heap.objs.size) { s with heap := s.heap.push { cls := .type "tuple", data := .seq its.toArray }, toks := s.toks } := by
  have hg : (s.heap.push { cls := .type "tuple", data := .seq its.toArray }).get? s.heap.objs.size = some { cls := .type "tuple", data := .seq its.toArray } := Heap.get?_push_size _ rfl
  exact ⟨.ref s.heap.objs.size, _, I.laid (t' := s.toks) (o := .frz { cls := .type "tuple", data := .seq its.toArray } (.tup xs)) (fun b ob e => Heap.get?_push_of_some _ e) (Nat.le_refl _) ⟨hg, hz, its, r, _, hg, rfl, _, rfl⟩, rfl, q _ { cls := .type "tuple", data := .seq its.toArray } rfl rfl (I.hok.fresh (Nat.le_refl _))⟩
def tTupN (t : TA) : TE := fun σ H Q => t σ H fun xs H1 => xs.length ≤ sizeLine ∧ NewT H1 xs Q
theorem pe_tupN {es : List Expr} {t : TA} {pos : Pos} {x1} (h : PA X es t) : PE X (.Tuple es x1 pos) (tTupN t) := by
  refine ⟨fun pins s σ H Q I hq => ?_⟩
  refine wpAny_Tuple_spliced (thn (h.run pos pins s σ H _ I hq) fun vs s2 ⟨ys, H2, I2, rr, zz, qq⟩ => ⟨by rw [← rr.length]; exact zz, ?_⟩)
  exact newT_ep I2 rr zz qq
def rCatN (K : PySem.W.Frag) : R2 := fun x y H Q => ∃ a b xs ys, x = .ref a ∧ y = .ref b ∧ SqT K H a xs ∧ SqT K H b ys ∧ xs.length + ys.length ≤ sizeLine ∧
  (xs = [] → Q (.ref b) H) ∧ (xs ≠ [] → ys = [] → Q (.ref a) H) ∧ (xs ≠ [] → ys ≠ [] → NewT H (xs ++ ys) Q)
theorem op_catN : OpR X (binaryOp .Add) (rCatN X.K) := by
  intro pins s σ H x y v u Q I rx ry h
  obtain ⟨a, b, xs, ys, rfl, rfl, ha, hb, hz, q0, q1, q2⟩ := h
  by_cases hx : xs = []
  · refine op_catA pins s σ H _ _ v u Q I rx ry ⟨a, b, xs, ys, rfl, rfl, ha, hb, hz, q0, fun z => absurd hx z, fun z => absurd hx z⟩
  · cases rx
    cases ry
    obtain ⟨is1, r1, p1, _⟩ := I.tuple ha
    obtain ⟨is2, r2, p2, _⟩ := I.tuple hb
    refine HT.cat_tup p1 p2 (fun z => hx (r1.nil_iff.mp z)) (fun z => ⟨.ref a, H, I, rfl, q1 hx (r2.nil_iff.mp z)⟩) (fun z => ?_) (by rw [← r1.length, ← r2.length]; exact hz)
    exact newT_ep I (r1.append r2) (by rw [List.length_append]; exact hz) (q2 hx fun w => z (r2.nil_iff.mpr w))
def rRepN (K : PySem.W.Frag) : R2 := fun x y H Q => ∃ l k xs, x = .ref l ∧ y = .int k ∧ SqT K H l xs ∧ xs ≠ [] ∧ 2 ≤ k ∧ k ≤ 1000 ∧ xs.length ≤ 1000 ∧ NewT H (List.replicate k.toNat xs).flatten Q
theorem op_repN : OpR X (binaryOp .Mult) (rRepN X.K) := by
  intro pins s σ H x y v u Q I rx ry h
  obtain ⟨l, n0, xs, rfl, rfl, hT, hne, h1, h2, hz, q⟩ := h
  cases rx
  obtain ⟨t, rfl⟩ := ry
  obtain ⟨is1, r1, ⟨⟨cls, dc, data, sl⟩, ho, hc, n, hd⟩, hs⟩ := I.tuple hT
  simp only at hc hd
  subst hc hd
  have ln : is1.length = xs.length := r1.length.symm
  have ne1 : is1.toArray.isEmpty = false := by
    cases is1 with
    | nil => exact absurd (List.eq_nil_of_length_eq_zero ln.symm) hne
    | cons a b => rfl
  have sz : is1.toArray.size = xs.length := by rw [List.size_toArray, ln]
  have hm : ((is1.toArray.size : Nat) : Int) * n0 ≤ 1000000 := by
    rw [sz]
    have : ((xs.length : Nat) : Int) * n0 ≤ 1000 * n0 := Int.mul_le_mul_of_nonneg_right (by omega) (by omega)
    omega
  have fl : (List.replicate n0.toNat is1).flatten.length ≤ sizeLine := by
    rw [PyProof.Rows.lm_len_rep_flat, ln, sizeLine_eq]
    have : n0.toNat * xs.length ≤ 1000 * 1000 := Nat.mul_le_mul (by omega) hz
    omega
  have g0 : (decide (n0 < -(2 ^ 63)) || decide (n0 ≥ 2 ^ 63)) = false := by
    rw [decide_eq_false (by omega), decide_eq_false (by omega)]; rfl
  have g1 : (is1.toArray.isEmpty || n0 == 1) = false := by
    rw [ne1, Bool.false_or]; exact beq_eq_false_iff_ne.mpr (by omega)
  have g2 : (decide (n0 ≤ 0) || is1.toArray.isEmpty) = false := by
    rw [ne1, Bool.or_false]; exact decide_eq_false (by omega)
  have g4 : Builtin.Tuple.tupleTooMany (((is1.toArray.size : Nat) : Int) * n0) = false := by
    unfold Builtin.Tuple.tupleTooMany
    rw [sizeLine_eq]; exact decide_eq_false (by omega)
  have g3 : ¬ ((is1.toArray.size : Nat) : Int) * n0 > (2 ^ 63 - 1) / 8 := by omega
  have fz : (List.replicate n0.toNat xs).flatten.length ≤ sizeLine := by
    rw [PyProof.Rows.lm_len_rep_flat] at fl ⊢
    rw [← ln]; exact fl
  have W := tuple_mulW l is1.toArray n dc sl n0 t g0 g1 g2 g3 g4 (by rw [size_rep, List.size_toArray]; exact fl)
  refine wpAny_binaryOp_repeat_ref (T := "tuple") (U := "int") (by decide) ⟨_, ho, rfl⟩ (fun s1 => typeIs_int s1 n0 t) noFill_tuple_mul F.fills_int_mul F.slot_int_rmul repeat_tuple F.slot_int_index.lookup ?_
  refine call_meets F.slot_int_rmul (typeIs_int s n0 t) F.entry_int_rmul (F.args_int_rmul_2 _ _) (int_rmul_tuple n0 t l is1.toArray n dc sl) ⟨ho, rfl, ⟨_, ho, rfl⟩, ?_⟩
  refine call_meets F.slot_tuple_mul ⟨_, ho, rfl⟩ F.entry_tuple_mul (F.args_tuple_mul_2 _ _) W ⟨ho, ?_⟩
  rw [size_rep]
  exact newT_ep I (r1.rep n0.toNat) fz q
theorem call_tuple_ofN : CallR X (.type "tuple") (fun vs H Q => ∃ p ys, vs = [.ref p] ∧ ((SqL X.K H p ys ∧ NewT H ys Q) ∨ (SqT X.K H p ys ∧ Q (.ref p) H))) := by
  intro pins s σ H vs us Q I r h
  obtain ⟨p, ys, rfl, h⟩ := h
  rcases h with ⟨hq, q⟩ | ⟨hq, q⟩
  · obtain ⟨u, rfl, rx⟩ := vals1 r
    cases rx
    obtain ⟨is1, r1, pl, hz⟩ := I.list hq
    have hl := r1.length
    refine call_tuple_list pl.isList (fun h2 kp => ?_) (by simp only [List.size_toArray]; omega)
    have I1 : Inv X pins σ H { s with heap := h2 } := I.kept (t' := s.toks) kp
    exact newT_ep I1 r1 hz q
  · exact call_tuple_of pins s σ H _ us Q I r ⟨p, ys, rfl, .inr ⟨hq, q⟩⟩
end
end DL
namespace DL
open PySem L2 PySem.Spec
abbrev En := List PyData
abbrev Ef := En → Option (PyData × En)
abbrev Bf := En → Option (Bool × En)
abbrev Lf := En → Option (List PyData × En)
section
variable {K : PySem.W.Frag} {G G' H H' : Hp}
theorem ownA_take {ts : List Ty} {ds : List PyData} {vs : List (Option V)} {A : List Addr} (h : OwnA K G H ts ds vs A) {j : Nat} {t : Ty} (e : ts[j]? = some t) :
    ∃ d v Aj A0, ds[j]? = some d ∧ vs[j]? = some v ∧ Own K G H t d v Aj ∧ OwnA K G H (ts.set j .u) ds vs A0 ∧ A.Perm (Aj ++ A0) := by
  induction ts generalizing ds vs A j with
  | nil => simp at e
  | cons t0 ts ih =>
    cases h with
    | @cons _ _ d ds v vs A B h1 h2 =>
      cases j with
      | zero =>
        simp at e; subst e
        exact ⟨d, v, A, B, rfl, rfl, h1, by simpa using OwnA.cons (.u d v) h2, List.Perm.refl _⟩
      | succ j =>
        obtain ⟨d', v', Aj, A0, e1, e2, o1, o2, p⟩ := ih h2 (by simpa using e)
        refine ⟨d', v', Aj, A ++ A0, by simpa using e1, by simpa using e2, o1, OwnA.cons h1 o2, ?_⟩
        exact (List.Perm.append_left A p).trans (by rw [← List.append_assoc, ← List.append_assoc]; exact List.Perm.append_right _ List.perm_append_comm)
theorem ownA_put {ts : List Ty} {ds : List PyData} {vs : List (Option V)} {A0 : List Addr} (h : OwnA K G H ts ds vs A0) {j : Nat} (hj : ts[j]? = some .u) {t : Ty} {d : PyData} {v : Option V} {Aj : List Addr} (o : Own K G H t d v Aj) :
    ∃ A, OwnA K G H (ts.set j t) (ds.set j d) (vs.set j v) A ∧ A.Perm (Aj ++ A0) := by
  induction ts generalizing ds vs A0 j with
  | nil => simp at hj
  | cons t0 ts ih =>
    cases h with
    | @cons _ _ d0 ds v0 vs A B h1 h2 =>
      cases j with
      | zero =>
        simp at hj; subst hj
        cases h1
        exact ⟨Aj ++ B, by simpa using OwnA.cons o h2, by simp⟩
      | succ j =>
        obtain ⟨A', o2, p⟩ := ih h2 (by simpa using hj)
        refine ⟨A ++ A', by simpa using OwnA.cons h1 o2, ?_⟩
        exact (List.Perm.append_left A p).trans (by rw [← List.append_assoc, ← List.append_assoc]; exact List.Perm.append_right _ List.perm_append_comm)
theorem ownA_hide {ts : List Ty} {ds : List PyData} {vs : List (Option V)} {A : List Addr} (h : OwnA K G H ts ds vs A) (j : Nat) : ∃ A0, OwnA K G H (ts.set j .u) ds vs A0 ∧ ∃ B, A.Perm (B ++ A0) := by
  cases e : ts[j]? with
  | none => exact ⟨A, by rw [List.set_eq_of_length_le (by simpa using e)]; exact h, [], by simp⟩
  | some t =>
    obtain ⟨d, v, Aj, A0, _, _, _, o, p⟩ := ownA_take h e
    exact ⟨A0, o, Aj, p⟩
theorem ownA_getS {ts : List Ty} {ds : List PyData} {vs : List (Option V)} {A : List Addr} (h : OwnA K G H ts ds vs A) {j : Nat} (e : ts[j]? = some .s) : ∃ d v, ds[j]? = some d ∧ vs[j]? = some (some v) ∧ Dq K G v d := by
  obtain ⟨d, v, Aj, A0, e1, e2, o, _, _⟩ := ownA_take h e
  cases o with
  | s h => exact ⟨d, _, e1, e2, h⟩
end
theorem set_id {α : Type} {l : List α} {j : Nat} {x : α} (h : l[j]? = some x) : l.set j x = l := by
  apply List.ext_getElem?
  intro i
  rw [List.getElem?_set]
  split
  · rename_i hij; subst hij
    obtain ⟨h1, h2⟩ := List.getElem?_eq_some_iff.mp h
    simp [h1, h2]
  · rfl
theorem stt_frz {K : PySem.W.Frag} {G H : Hp} {m : List Ty} {σ : St} {e : En} {A : List Addr} {j : Nat} {t : Ty} (st : Stt K m G H σ e A) (hm : m[j]? = some t) (hn : nou t = true) :
    ∃ G' A', Step A G H A' G' H ∧ Stt K (m.set j .s) G' H σ e A' := by
  obtain ⟨d', v, Aj, A0, h1, h2, h3, h4, hp⟩ := ownA_take st.own hm
  have nd : (Aj ++ A0).Nodup := hp.nodup_iff.mp st.nd
  have st0 : Stt K (m.set j .u) G H σ e A0 := ⟨h4, (List.nodup_append.mp nd).2.1, st.sub⟩
  obtain ⟨s1, st1, sg, hl⟩ := frz st0 (own_at h3) nd
  obtain ⟨x, rfl, q⟩ := own_frz h3 sg hl hn
  have hj : (m.set j .u)[j]? = some .u := by
    have := (List.getElem?_eq_some_iff.mp hm).1
    simp [this]
  obtain ⟨A', o', p'⟩ := ownA_put st1.own hj (.s q)
  rw [set_id h1, set_id h2, List.set_set] at o'
  have pA : A'.Perm A0 := by simpa using p'
  refine ⟨_, A', ⟨s1.sg, fun a o h _ => h, fun a ha => .inl (hp.mem_iff.mpr (List.mem_append_right _ (pA.mem_iff.mp ha))), fun a h1 h2 => .inl ((s1.gnew a h1 h2).elim (fun z => hp.mem_iff.mpr z) fun z => ?_)⟩, ⟨o', pA.nodup_iff.mpr st1.nd, st1.sub⟩⟩
  obtain ⟨o, ho⟩ := h2
  by_cases q : a ∈ Aj
  · exact hp.mem_iff.mpr (List.mem_append_left _ q)
  · rw [lay_out q, h1] at ho; cases ho
def DE (K : PySem.W.Frag) (m : List Ty) (te : TE) (ty : Ty) (f : Ef) (m' : List Ty) : Prop :=
  ∀ {G H : Hp} {σ : St} {e : En} {A : List Addr} {d : PyData} {e' : En} {Q : VK}, Stt K m G H σ e A → f e = some (d, e') →
    (∀ (G' H' : Hp) (v : V) (Av A' : List Addr), Step A G H (Av ++ A') G' H' → Stt K m' G' H' σ e' A' → Own K G' H' ty d (some v) Av → (Av ++ A').Nodup → Q v H') → te σ H Q
def DT (K : PySem.W.Frag) (m : List Ty) (tt : TT) (f : Bf) (m' : List Ty) : Prop :=
  ∀ {G H : Hp} {σ : St} {e : En} {A : List Addr} {b : Bool} {e' : En} {Q : Bool → Hp → Prop}, Stt K m G H σ e A → f e = some (b, e') →
    (∀ (G' H' : Hp) (A' : List Addr), Step A G H A' G' H' → Stt K m' G' H' σ e' A' → Q b H') → tt σ H Q
def DA (K : PySem.W.Frag) (m : List Ty) (ta : TA) (tys : List Ty) (f : Lf) (m' : List Ty) : Prop :=
  ∀ {G H : Hp} {σ : St} {e : En} {A : List Addr} {ds : List PyData} {e' : En} {Q : List V → Hp → Prop}, Stt K m G H σ e A → f e = some (ds, e') →
    (∀ (G' H' : Hp) (vs : List V) (Av A' : List Addr), Step A G H (Av ++ A') G' H' → Stt K m' G' H' σ e' A' → OwnA K G' H' tys ds (vs.map some) Av → (Av ++ A').Nodup → Q vs H') → ta σ H Q
structure RoomU (k : Nat) (A : Around) : Prop where
  dp : A.depth + 3 * k + 5 < recursionLimit
  un : A.units + 16 * k + 200 < cLine
theorem _root_.L2.Room.u {k : Nat} {A : Around} (r : Room k A) : RoomU k A := ⟨r.dp, r.un⟩
class Fam {ι : Type} (Xf : ι → Cx) (P : outParam Program) (w : outParam World) (K : outParam PySem.W.Frag) (mg : outParam (Str → Option Value)) (base : outParam Heap) (n : outParam Nat) : Prop where
  prog : ∀ i, (Xf i).prog = P
  w_ : ∀ i, (Xf i).w = w
  kk : ∀ i, (Xf i).K = K
  mg_ : ∀ i, (Xf i).mg = mg
  base_ : ∀ i, (Xf i).base = base
  room : ∀ i, RoomU n (Xf i).A
  nd : ∀ i, (Xf i).N.Nodup
structure PD {ι : Type} (Xf : ι → Cx) (K : PySem.W.Frag) (m : List Ty) (e : Expr) (ty : Ty) (f : Ef) (m' : List Ty) : Prop where
  ex : ∃ te : TE, (∀ i, PE (Xf i) e te) ∧ DE K m te ty f m'
structure PB {ι : Type} (Xf : ι → Cx) (K : PySem.W.Frag) (m : List Ty) (e : Expr) (f : Bf) (m' : List Ty) : Prop where
  ex : ∃ tt : TT, (∀ i, PT (Xf i) e tt) ∧ DT K m tt f m'
structure PBw {ι : Type} (Xf : ι → Cx) (K : PySem.W.Frag) (m : List Ty) (e : Expr) (f : Bf) (m' : List Ty) : Prop where
  ex : ∃ tt : TT, (∀ i, PW (Xf i) e tt) ∧ DT K m tt f m'
structure PL {ι : Type} (Xf : ι → Cx) (K : PySem.W.Frag) (m : List Ty) (es : List Expr) (tys : List Ty) (f : Lf) (m' : List Ty) : Prop where
  ex : ∃ ta : TA, (∀ i, PA (Xf i) es ta) ∧ DA K m ta tys f m'
def D1 (K : PySem.W.Frag) (r : V → Hp → VK → Prop) (ty : Ty) (g : PyData → Option PyData) : Prop :=
  ∀ {m : List Ty} {G H : Hp} {σ : St} {e : En} {A : List Addr} {x : V} {dx d : PyData} {Q : VK}, Stt K m G H σ e A → Dq K G x dx → g dx = some d →
    (∀ (G' H' : Hp) (v : V) (Av A' : List Addr), Step A G H (Av ++ A') G' H' → Stt K m G' H' σ e A' → Own K G' H' ty d (some v) Av → (Av ++ A').Nodup → Q v H') → r x H Q
def D2 (K : PySem.W.Frag) (r : R2) (ty : Ty) (g : PyData → PyData → Option PyData) : Prop :=
  ∀ {m : List Ty} {G H : Hp} {σ : St} {e : En} {A : List Addr} {x y : V} {dx dy d : PyData} {Q : VK}, Stt K m G H σ e A → Dq K G x dx → Dq K G y dy → g dx dy = some d →
    (∀ (G' H' : Hp) (v : V) (Av A' : List Addr), Step A G H (Av ++ A') G' H' → Stt K m G' H' σ e A' → Own K G' H' ty d (some v) Av → (Av ++ A').Nodup → Q v H') → r x y H Q
structure Op2 {ι : Type} (Xf : ι → Cx) (K : PySem.W.Frag) (op : Value → Value → Sem Value) (ty : Ty) (g : PyData → PyData → Option PyData) : Prop where
  ex : ∃ r : R2, (∀ i, OpR (Xf i) op r) ∧ D2 K r ty g
structure Ix2 {ι : Type} (Xf : ι → Cx) (K : PySem.W.Frag) (ty : Ty) (g : PyData → PyData → Option PyData) : Prop where
  ex : ∃ r : R2, (∀ i, IxR (Xf i) r) ∧ D2 K r ty g
structure Cl1 {ι : Type} (Xf : ι → Cx) (K : PySem.W.Frag) (fn : Value) (ty : Ty) (g : PyData → Option PyData) : Prop where
  ex : ∃ r : List V → Hp → VK → Prop, (∀ i, CallR (Xf i) fn r) ∧ D1 K (fun x => r [x]) ty g
structure Cl2 {ι : Type} (Xf : ι → Cx) (K : PySem.W.Frag) (fn : Value) (ty : Ty) (g : PyData → PyData → Option PyData) : Prop where
  ex : ∃ r : List V → Hp → VK → Prop, (∀ i, CallR (Xf i) fn r) ∧ D2 K (fun x y => r [x, y]) ty g
section
variable {K : PySem.W.Frag} {G H : Hp} {m : List Ty} {σ : St} {e : En} {A : List Addr} {d : PyData} {Q : VK} {ty : Ty}
theorem ans_s (st : Stt K m G H σ e A) {v : V} (h : Dq K G v d) (k : ∀ (G' H' : Hp) (v : V) (Av A' : List Addr), Step A G H (Av ++ A') G' H' → Stt K m G' H' σ e A' → Own K G' H' .s d (some v) Av → (Av ++ A').Nodup → Q v H') : Q v H :=
  k G H v [] A Step.refl st (.s h) st.nd
theorem ans_tup (st : Stt K m G H σ e A) {vs : List V} {ds : List PyData} (h : DqA K G vs ds) (hz : vs.length ≤ sizeLine) (k : ∀ (G' H' : Hp) (v : V) (Av A' : List Addr), Step A G H (Av ++ A') G' H' → Stt K m G' H' σ e A' → Own K G' H' .s (.tuple ds) (some v) Av → (Av ++ A').Nodup → Q v H') :
    NewT H vs Q := fun p o hc hd hp => by
  obtain ⟨s1, st1, sg⟩ := new_s (o := .frz o (.tup vs)) st hp
  have h' := h.mono sg
  exact k _ _ _ [] A s1 st1 (.s (.tup (.inl ⟨o, hc, hd, upd_same⟩) h'.1 hz h'.2)) st1.nd
theorem ownA_of {G H : Hp} : ∀ {vs : List V} {ds : List PyData}, DqA K G vs ds → OwnA K G H (List.replicate ds.length .s) ds (vs.map some) []
  | [], [], _ => .nil
  | v :: vs, d :: ds, h => OwnA.cons (A := []) (.s h.head) (ownA_of h.tail)
  | [], _ :: _, h => by have := h.1; simp at this
  | _ :: _, [], h => by have := h.1; simp at this
theorem of_ownA {G H : Hp} : ∀ {n : Nat} {vs : List V} {ds : List PyData} {A : List Addr}, OwnA K G H (List.replicate n .s) ds (vs.map some) A → A = [] ∧ DqA K G vs ds
  | 0, [], _, _, h => by cases h; exact ⟨rfl, DqA.nil⟩
  | 0, _ :: _, _, _, h => by cases h
  | n + 1, [], _, _, h => by cases h
  | n + 1, v :: vs, _, _, h => by
    cases h with
    | cons h1 h2 =>
      obtain ⟨e2, q2⟩ := of_ownA (n := n) h2
      cases h1 with
      | s h1 => subst e2; exact ⟨rfl, DqA.cons h1 q2⟩
theorem ans_lst (st : Stt K m G H σ e A) {vs : List V} {ds : List PyData} (h : DqA K G vs ds) (hz : vs.length ≤ sizeLine) (k : ∀ (G' H' : Hp) (v : V) (Av A' : List Addr), Step A G H (Av ++ A') G' H' → Stt K m G' H' σ e A' → Own K G' H' (.l .s) (.list ds) (some v) Av → (Av ++ A').Nodup → Q v H') :
    ∀ p, H p = none → Q (.ref p) (upd H p (.lst vs)) := fun p hp => by
  obtain ⟨s1, st1, nd, gp⟩ := new_o (o := .lst vs) (B := []) st hp
  exact k _ _ _ [p] A s1 st1 (.l gp upd_same hz (ownA_of h)) nd
end
def eVar (j : Nat) : Ef := fun e => some (e.getD j .none, e)
def eC (d : PyData) : Ef := fun e => some (d, e)
def e1 (g : PyData → Option PyData) (a : Ef) : Ef := fun e => (a e).bind fun p => (g p.1).bind fun r => some (r, p.2)
def e2 (g : PyData → PyData → Option PyData) (a b : Ef) : Ef := fun e => (a e).bind fun p => (b p.2).bind fun q => (g p.1 q.1).bind fun r => some (r, q.2)
section
variable {ι : Type} {Xf : ι → Cx} {P : Program} {w : World} {K : PySem.W.Frag} {mg : Str → Option Value} {base : Heap} {n : Nat} [F : Fam Xf P w K mg base n]
variable {m m1 m2 m3 : List Ty} {pos p p2 : Pos} {a b c : Expr} {f g h : Ef}
theorem pd_var (j : Nat) {x : Str} (hm : m[j]? = some .s := by rfl) (hN : ∀ i, (Xf i).N[j]? = some x := by intro _; rfl)
    (hv : ∀ i, Vis (Xf i).env.scope x := by first | (intro _; exact Or.inl rfl) | (intro _; exact Or.inr (Or.inl rfl)) | (intro _; exact Or.inr (Or.inr rfl))) (hd : (x == ("__debug__" : Str)) = false := by decide)
    (hcd : (x == ("__classdict__" : Str)) = false := by decide) : PD Xf K m (.Name x pos) .s (eVar j) m := by
  refine ⟨tVar j, fun i => pe_var (hN i) (hv i) hd hcd, fun {G H σ e A d e' Q} st hf k => ?_⟩
  obtain ⟨d', v, h1, h2, h3⟩ := ownA_getS st.own hm
  cases hf
  rw [List.getD_eq_getElem?_getD, h1] at k
  exact ⟨v, h2, ans_s st h3 k⟩
theorem pd_frzVar (j : Nat) {t : Ty} {x : Str} (hm : m[j]? = some t := by rfl) (hn : nou t = true := by rfl) (hN : ∀ i, (Xf i).N[j]? = some x := by intro _; rfl)
    (hv : ∀ i, Vis (Xf i).env.scope x := by first | (intro _; exact Or.inl rfl) | (intro _; exact Or.inr (Or.inl rfl)) | (intro _; exact Or.inr (Or.inr rfl))) (hd : (x == ("__debug__" : Str)) = false := by decide)
    (hcd : (x == ("__classdict__" : Str)) = false := by decide) : PD Xf K m (.Name x pos) .s (eVar j) (m.set j .s) := by
  refine ⟨tVar j, fun i => pe_var (hN i) (hv i) hd hcd, fun {G H σ e A d e' Q} st hf k => ?_⟩
  obtain ⟨G', A', s0, st2⟩ := stt_frz st hm hn
  obtain ⟨d', v, h1, h2, h3⟩ := ownA_getS st2.own (j := j) (by have := (List.getElem?_eq_some_iff.mp hm).1; simp [this])
  cases hf
  rw [List.getD_eq_getElem?_getD, h1] at k
  exact ⟨v, h2, k _ _ v [] A' s0 st2 (.s h3) st2.nd⟩
theorem pd_int {i : Int} {j} : PD Xf K m (.Constant (.int i) j pos) .s (eC (.int i)) m := ⟨_, fun _ => pe_int, fun {G H σ e A d e' Q} st hf k => by cases hf; exact ans_s st (.int i) k⟩
theorem pd_bool {i : Bool} {j} : PD Xf K m (.Constant (.bool i) j pos) .s (eC (.bool i)) m := ⟨_, fun _ => pe_bl, fun {G H σ e A d e' Q} st hf k => by cases hf; exact ans_s st (.bl i) k⟩
theorem pd_str {x : Str} {j} (hx : x.length ≤ sizeLine := by decide +kernel) : PD Xf K m (.Constant (.str x) j pos) .s (eC (.str x)) m := ⟨_, fun _ => pe_str, fun {G H σ e A d e' Q} st hf k => by cases hf; exact ans_s st (.str x hx) k⟩
theorem DE.bin {r : R2} {ta tb : TE} {ty : Ty} {gg : PyData → PyData → Option PyData} (ha : DE K m ta .s f m1) (hb : DE K m1 tb .s g m2) (hr : D2 K r ty gg) : DE K m (tOp r ta tb) ty (e2 gg f g) m2 := by
  intro G H σ e A d e' Q st hf k
  unfold e2 at hf
  obtain ⟨⟨d1, e1⟩, hf1, hf⟩ := oBs hf
  obtain ⟨⟨d2, e2⟩, hf2, hf⟩ := oBs hf
  obtain ⟨d3, hf3, hf⟩ := oBs hf
  cases hf
  refine ha st hf1 fun G1 H1 v1 A1 B1 s1 st1 o1 nd1 => ?_
  cases o1 with
  | s q1 =>
    refine hb st1 hf2 fun G2 H2 v2 A2 B2 s2 st2 o2 nd2 => ?_
    cases o2 with
    | s q2 => exact hr st2 (q1.mono s2.sg) q2 hf3 fun G3 H3 v3 A3 B3 s3 st3 o3 nd3 => k G3 H3 v3 A3 B3 ((s1.seq0 s2).seq0 s3) st3 o3 nd3
theorem DE.un {r : V → Hp → VK → Prop} {ta : TE} {ty : Ty} {gg : PyData → Option PyData} (ha : DE K m ta .s f m1) (hr : D1 K r ty gg) : DE K m (fun σ H Q => ta σ H fun x H1 => r x H1 Q) ty (e1 gg f) m1 := by
  intro G H σ e A d e' Q st hf k
  unfold e1 at hf
  obtain ⟨⟨d1, e1⟩, hf1, hf⟩ := oBs hf
  obtain ⟨d3, hf3, hf⟩ := oBs hf
  cases hf
  refine ha st hf1 fun G1 H1 v1 A1 B1 s1 st1 o1 nd1 => ?_
  cases o1 with
  | s q1 => exact hr st1 q1 hf3 fun G3 H3 v3 A3 B3 s3 st3 o3 nd3 => k G3 H3 v3 A3 B3 (s1.seq0 s3) st3 o3 nd3
theorem pd_bin {op : Operator} {ty : Ty} {gg : PyData → PyData → Option PyData} (ho : Op2 Xf K (binaryOp op) ty gg) (ha : PD Xf K m a .s f m1) (hb : PD Xf K m1 b .s g m2) : PD Xf K m (.BinOp a op b pos) ty (e2 gg f g) m2 := by
  obtain ⟨r, hr, dr⟩ := ho.ex
  obtain ⟨ta, pa, da⟩ := ha.ex
  obtain ⟨tb, pb, db⟩ := hb.ex
  exact ⟨_, fun i => pe_op (hr i) (pa i) (pb i), DE.bin da db dr⟩
theorem pd_cmp {op : CmpOp} {ty : Ty} {gg : PyData → PyData → Option PyData} (ho : Op2 Xf K (compareOp op) ty gg) (ha : PD Xf K m a .s f m1) (hb : PD Xf K m1 b .s g m2) (hm : behindInMarks op b = false := by first | exact nomark _ | rfl) : PD Xf K m (.Compare a [op] [b] pos) ty (e2 gg f g) m2 := by
  obtain ⟨r, hr, dr⟩ := ho.ex
  obtain ⟨ta, pa, da⟩ := ha.ex
  obtain ⟨tb, pb, db⟩ := hb.ex
  exact ⟨_, fun i => pe_cmpR (hr i) (pa i) (pb i) hm, DE.bin da db dr⟩
theorem pd_ix {ty : Ty} {gg : PyData → PyData → Option PyData} (ho : Ix2 Xf K ty gg) (ha : PD Xf K m a .s f m1) (hb : PD Xf K m1 b .s g m2) (hs : PlainIx b := by exact fun _ _ => rfl) : PD Xf K m (.Subscript a b pos) ty (e2 gg f g) m2 := by
  obtain ⟨r, hr, dr⟩ := ho.ex
  obtain ⟨ta, pa, da⟩ := ha.ex
  obtain ⟨tb, pb, db⟩ := hb.ex
  exact ⟨_, fun i => pe_ix (hr i) (pa i) (pb i) hs, DE.bin da db dr⟩
theorem pd_frz {ty : Ty} (ha : PD Xf K m a ty f m1) (hn : nou ty = true := by rfl) : PD Xf K m a .s f m1 := by
  obtain ⟨ta, pa, da⟩ := ha.ex
  refine ⟨ta, pa, fun {G H σ e A d e' Q} st hf k => da st hf fun G1 H1 v1 A1 B1 s1 st1 o1 nd1 => ?_⟩
  obtain ⟨s2, st2, sg, hl⟩ := frz st1 (own_at o1) nd1
  obtain ⟨x, hx, q⟩ := own_frz o1 sg hl hn
  cases hx
  have s0 : Step A G H ([] ++ B1) (lay G1 H1 A1) H1 := s1.seq0 s2
  exact k _ _ v1 [] B1 s0 st2 (.s q) st2.nd
end
end DL
namespace DL
open PySem L2 PySem.Spec
mutual
def noOb : PyData → Bool
  | .list xs => noObA xs
  | .tuple xs => noObA xs
  | .dict kvs => (match kvs with | [(.tuple _, _)] => false | _ => true)
  | _ => true
def noObA : List PyData → Bool
  | [] => true
  | x :: xs => noOb x && noObA xs
end
theorem noObA_at : ∀ {xs : List PyData}, noObA xs = true → ∀ {i : Nat} {d : PyData}, xs[i]? = some d → noOb d = true
  | [], _, i, d, h => by simp at h
  | x :: xs, h, i, d, e => by
    have h := (Bool.and_eq_true ..).mp (show (noOb x && noObA xs) = true from h)
    cases i with
    | zero => simp at e; subst e; exact h.1
    | succ i => exact noObA_at h.2 (i := i) (by simpa using e)
mutual
theorem plain_noOb : ∀ d : PyData, d.plain = true → noOb d = true
  | .none, _ => rfl
  | .bool _, _ => rfl
  | .int _, _ => rfl
  | .str _, _ => rfl
  | .list xs, h => plainAll_noOb xs h
  | .tuple xs, h => plainAll_noOb xs h
  | .dict _, h => by cases h
theorem plainAll_noOb : ∀ xs : List PyData, PyData.plainAll xs = true → noObA xs = true
  | [], _ => rfl
  | x :: xs, h => by
    have h := (Bool.and_eq_true ..).mp (show (x.plain && PyData.plainAll xs) = true from h)
    exact (Bool.and_eq_true ..).mpr ⟨plain_noOb x h.1, plainAll_noOb xs h.2⟩
end
mutual
theorem alike_noOb : ∀ d : PyData, PySem.W.alike d d = true → noOb d = true
  | .none, _ => rfl
  | .bool _, _ => rfl
  | .int _, _ => rfl
  | .str _, _ => rfl
  | .list xs, h => alikeAll_noOb xs (by simpa [PySem.W.alike] using h)
  | .tuple xs, h => alikeAll_noOb xs (by simpa [PySem.W.alike] using h)
  | .dict _, h => by simp [PySem.W.alike] at h
theorem alikeAll_noOb : ∀ xs : List PyData, PySem.W.alikeAll xs xs = true → noObA xs = true
  | [], _ => rfl
  | x :: xs, h => by
    have h := (Bool.and_eq_true ..).mp (show (PySem.W.alike x x && PySem.W.alikeAll xs xs) = true by simpa [PySem.W.alikeAll] using h)
    exact (Bool.and_eq_true ..).mpr ⟨alike_noOb x h.1, alikeAll_noOb xs h.2⟩
end
theorem ft_noOb : ∀ (n : Nat) {d : PyData}, ftS n d = true → noOb d = true
  | n, .none, _ => rfl
  | n, .bool _, _ => rfl
  | n, .int _, _ => rfl
  | n, .str _, _ => rfl
  | n + 1, .tuple xs, h => by
    have h : xs.all (ftS n) = true := h
    show noObA xs = true
    have key : ∀ xs : List PyData, xs.all (ftS n) = true → noObA xs = true := fun xs => by
      induction xs with
      | nil => intro _; rfl
      | cons x xs ih =>
        intro h
        rw [List.all_cons, Bool.and_eq_true] at h
        exact (Bool.and_eq_true ..).mpr ⟨ft_noOb n h.1, ih h.2⟩
    exact key xs h
  | 0, .tuple _, h => by cases h
  | n, .list _, h => by cases n <;> cases h
  | n, .dict _, h => by cases n <;> cases h
section
variable {X : Cx} {pins : List (Addr × Obj)} {σ : St} {H : Hp} {s : Shared}
theorem rdL (I : Inv X pins σ H s) {a : Addr} {xs : List V} (h : Rd H a (.lst xs)) : xs.length ≤ sizeLine ∧ ∃ (its : List Value) (n : Nat), Vals xs its ∧ s.heap.get? a = some { cls := .type "list", data := .seq its.toArray n } := h.ok I.hok
theorem rdD (I : Inv X pins σ H s) {a : Addr} {kvs : List (Str × Int)} (h : Rd H a (.dK (kvs.map fun p => (Sum.inr p.1, V.int p.2)))) :
    ∃ o es ep, s.heap.get? a = some o ∧ o.ExactDict ∧ o.data = .dict es ep ∧ Paired (fun (e : DictEntry) (p : Str × Int) => (∃ t, e.key = .str p.1 t) ∧ ∃ t, e.val = .int p.2 t) es.toList kvs ∧ (a == sysModules) = false := by
  have k : ∃ vs, KV (kvs.map fun p => ((Sum.inr p.1 : Key), V.int p.2)) vs ∧ s.heap.DictOf (mixKind X.prog X.w) a vs := by
    rcases h with h | ⟨o, h⟩
    · obtain ⟨_, _, vs, r, m⟩ : _ ∧ (a == sysModules) = false ∧ ∃ vs, KV _ vs ∧ s.heap.DictOf (mixKind X.prog X.w) a vs := I.hok a _ h
      exact ⟨vs, r, m⟩
    · obtain ⟨_, _, _, vs, r, m⟩ : _ ∧ (_ ∧ (a == sysModules) = false ∧ ∃ vs, KV _ vs ∧ s.heap.DictOf (mixKind X.prog X.w) a vs) := I.hok a _ h
      exact ⟨vs, r, m⟩
  have hne : (a == sysModules) = false := by
    rcases h with h | ⟨o, h⟩
    · obtain ⟨_, z, _⟩ : _ ∧ (a == sysModules) = false ∧ ∃ vs, KV _ vs ∧ s.heap.DictOf (mixKind X.prog X.w) a vs := I.hok a _ h
      exact z
    · obtain ⟨_, _, z, _⟩ : _ ∧ (_ ∧ (a == sysModules) = false ∧ ∃ vs, KV _ vs ∧ s.heap.DictOf (mixKind X.prog X.w) a vs) := I.hok a _ h
      exact z
  obtain ⟨vs, r, o, es, ep, h1, h2, h3, h4, h5, h6⟩ := k
  clear h4 h6
  refine ⟨o, es, ep, h1, h2, h3, ?_, hne⟩
  generalize es.toList = el at h5
  clear h1 h2 h3 hne h
  revert r
  induction h5 generalizing kvs with
  | nil =>
    intro r
    cases kvs with
    | nil => exact .nil
    | cons p kvs => cases r
  | @cons e kv es' kvs' hk hv _ ih =>
    intro r
    cases kvs with
    | nil => cases r
    | cons p kvs =>
      cases r with
      | cons h t =>
        obtain ⟨ha, hb⟩ := h
        refine .cons ⟨?_, ?_⟩ (ih t)
        · have hk' : keyIs (Sum.inr p.1) e.key = true := by rw [← ha] at hk; exact hk
          rcases keyIs_shape hk' with ⟨i, t, z, _⟩ | ⟨x, t, z, q⟩
          · cases z
          · cases z; exact ⟨t, q⟩
        · obtain ⟨t, q⟩ := hb
          exact ⟨t, by rw [hv, q]⟩
theorem rdD1 (I : Inv X pins σ H s) {a : Addr} {k : Str} {v : V} (h : Rd H a (.dK [(Sum.inr k, v)])) :
    ∃ o es ep, s.heap.get? a = some o ∧ o.ExactDict ∧ o.data = .dict es ep ∧ (∃ e t, es.toList = [e] ∧ e.key = .str k t ∧ RelV v e.val) ∧ (a == sysModules) = false := by
  have kk : (a == sysModules) = false ∧ ∃ vs, KV [((Sum.inr k : Key), v)] vs ∧ s.heap.DictOf (mixKind X.prog X.w) a vs := by
    rcases h with h | ⟨o, h⟩
    · obtain ⟨_, z, vs, r, m⟩ : _ ∧ (a == sysModules) = false ∧ ∃ vs, KV _ vs ∧ s.heap.DictOf (mixKind X.prog X.w) a vs := I.hok a _ h
      exact ⟨z, vs, r, m⟩
    · obtain ⟨_, _, z, vs, r, m⟩ : _ ∧ (_ ∧ (a == sysModules) = false ∧ ∃ vs, KV _ vs ∧ s.heap.DictOf (mixKind X.prog X.w) a vs) := I.hok a _ h
      exact ⟨z, vs, r, m⟩
  obtain ⟨hne, vs, r, o, es, ep, h1, h2, h3, h4, h5, h6⟩ := kk
  refine ⟨o, es, ep, h1, h2, h3, ?_, hne⟩
  generalize es.toList = el at h5
  clear h1 h2 h3 h4 h6 hne h
  cases vs with
  | nil => cases r
  | cons q qs =>
    cases r with
    | cons r1 r2 =>
      cases r2
      cases h5 with
      | @cons e kv es' kvs' hk hv h5' =>
        cases h5'
        obtain ⟨ha, hb⟩ := r1
        have hk' : keyIs (Sum.inr k) e.key = true := by rw [show (Sum.inr k : Key) = q.1 from ha]; exact hk
        rcases keyIs_shape hk' with ⟨i, t, z, _⟩ | ⟨x, t, z, w⟩
        · cases z
        · cases z
          exact ⟨e, t, rfl, w, by rw [hv]; exact hb⟩
theorem readsKV_of {h : Heap} : ∀ {es : List DictEntry} {kvs : List (Str × Int)}, Paired (fun (e : DictEntry) (p : Str × Int) => (∃ t, e.key = .str p.1 t) ∧ ∃ t, e.val = .int p.2 t) es kvs →
    ∃ as, ReadsAll h (es.map (·.key)) (kvs.map fun p => PyData.str p.1) as ∧ ∃ bs, ReadsAll h (es.map (·.val)) (kvs.map fun p => PyData.int p.2) bs
  | [], [], .nil => ⟨_, .nil, _, .nil⟩
  | e :: es, p :: kvs, .cons h t => by
    obtain ⟨⟨t1, h1⟩, t2, h2⟩ := h
    obtain ⟨as, k1, bs, k2⟩ := readsKV_of t
    refine ⟨[] ++ as, ?_, [] ++ bs, ?_⟩
    · rw [List.map_cons, List.map_cons, h1]; exact .cons (.str _ _) k1
    · rw [List.map_cons, List.map_cons, h2]; exact .cons (.int _ _) k2
theorem readsAll_of {P : V → PyData → Prop} (hp : ∀ v d u, P v d → RelV v u → ∃ as, Reads s.heap u d as) : ∀ {xs : List V} {ds : List PyData} {us : List Value}, xs.length = ds.length → (∀ (i : Nat) v d, xs[i]? = some v → ds[i]? = some d → P v d) → Vals xs us → ∃ as, ReadsAll s.heap us ds as
  | [], [], _, _, _, .nil => ⟨_, .nil⟩
  | v :: vs, d :: ds, _, hl, h, .cons r rs => by
    obtain ⟨as, q⟩ := hp v d _ (h 0 v d rfl rfl) r
    obtain ⟨bs, qs⟩ := readsAll_of hp (xs := vs) (ds := ds) (by simpa using hl) (fun i v d a b => h (i + 1) v d (by simpa using a) (by simpa using b)) rs
    exact ⟨_, .cons q qs⟩
  | [], _ :: _, _, hl, _, _ => by simp at hl
  | _ :: _, [], _, hl, _, _ => by simp at hl
theorem Dq.reads (I : Inv X pins σ H s) {v : V} {d : PyData} (h : Dq X.K H v d) : noOb d = true → ∀ {u : Value}, RelV v u → ∃ as, Reads s.heap u d as := by
  induction h with
  | non => intro _ u r; cases r; exact ⟨_, .none⟩
  | bl b => intro _ u r; cases r; exact ⟨_, .bool b⟩
  | int i => intro _ u r; obtain ⟨t, rfl⟩ := r; exact ⟨_, .int i t⟩
  | str x _ => intro _ u r; obtain ⟨t, rfl⟩ := r; exact ⟨_, .str x t⟩
  | lst hs hl hz _ ih =>
    intro no u r
    cases r
    obtain ⟨_, its, n, rv, ho⟩ := rdL I hs
    obtain ⟨as, q⟩ := readsAll_of (P := fun v d => ∀ {u : Value}, RelV v u → ∃ as, Reads s.heap u d as) (fun v d u h r => h r) hl (fun i v d a b => ih i v d a b (noObA_at no b)) rv
    exact ⟨_, Reads.list ho rfl rfl q⟩
  | tup hs hl hz _ ih =>
    intro no u r
    cases r
    obtain ⟨its, rv, ⟨o, ho, hc, n, hd⟩, _⟩ := I.tuple hs.sq
    obtain ⟨as, q⟩ := readsAll_of (P := fun v d => ∀ {u : Value}, RelV v u → ∃ as, Reads s.heap u d as) (fun v d u h r => h r) hl (fun i v d a b => ih i v d a b (noObA_at no b)) rv
    exact ⟨_, Reads.tuple ho hc hd q⟩
  | ob => intro no; cases no
  | @dv a k v d hs hf _ ih =>
    intro _ u r
    cases r
    obtain ⟨o, es, ep, ho, hx, hd, ⟨e, t, e1, e2, e3⟩, _⟩ := rdD1 I hs
    obtain ⟨as, q⟩ := ih (ft_noOb 3 hf) e3
    exact ⟨_, Reads.dict (as := [] ++ []) (bs := as ++ []) ho hx.1 hd (by rw [e1, List.map_cons, e2]; exact .cons (.str _ _) .nil) (by rw [e1]; exact .cons q .nil)⟩
  | @dic a kvs hs hz _ =>
    intro _ u r
    cases r
    obtain ⟨o, es, ep, ho, hx, hd, hp, _⟩ := rdD I hs
    obtain ⟨as, h1, bs, h2⟩ := readsKV_of (h := s.heap) hp
    exact ⟨_, Reads.dict (as := as) (bs := bs) ho hx.1 hd (by rw [List.map_map]; exact h1) (by rw [List.map_map]; exact h2)⟩
theorem DqA.reads (I : Inv X pins σ H s) {xs : List V} {ds : List PyData} (h : DqA X.K H xs ds) (no : noObA ds = true) {us : List Value} (r : Vals xs us) : ∃ as, ReadsAll s.heap us ds as :=
  readsAll_of (P := fun v d => Dq X.K H v d ∧ noOb d = true) (fun v d u h r => h.1.reads I h.2 r) h.1 (fun i v d a b => ⟨h.2 i v d a b, noObA_at no b⟩) r
end
def scV : PyData → Option V
  | .none => some .non
  | .bool b => some (.bl b)
  | .int i => some (.int i)
  | _ => none
theorem scV_dq {K : PySem.W.Frag} {G : Hp} {d : PyData} {v : V} (h : scV d = some v) : Dq K G v d := by
  cases d with
  | none => cases h; exact .non
  | bool b => cases h; exact .bl b
  | int i => cases h; exact .int i
  | _ => cases h
def r2S (K : PySem.W.Frag) (g : PyData → PyData → Option PyData) : R2 := fun x y H Q => ∃ dx dy d v, Dq K H x dx ∧ Dq K H y dy ∧ g dx dy = some d ∧ scV d = some v ∧ Q v H
theorem d2S {K : PySem.W.Frag} {g : PyData → PyData → Option PyData} (hg : ∀ a b d, g a b = some d → ∃ v, scV d = some v) : D2 K (r2S K g) .s g := fun st hx hy e k => by
  obtain ⟨v, hv⟩ := hg _ _ _ e
  exact ⟨_, _, _, v, hx.mono st.sub, hy.mono st.sub, e, hv, ans_s st (scV_dq hv) k⟩
def dep (a b : PyData) : Bool := decide (min a.depth b.depth ≤ 60)
def nilR (a b : PyData) : Bool := match a, b with
  | .tuple _, .tuple [] => true
  | .list _, .list [] => true
  | _, _ => false
def pln (a b : PyData) : Bool := (a.plain && b.plain) || nilR a b
def gEq (a b : PyData) : Option PyData := if (dep a b && pln a b) = true then some (.bool (PyData.eqv a b)) else none
def gNe (a b : PyData) : Option PyData := if (dep a b && pln a b) = true then some (.bool (!PyData.eqv a b)) else none
def cmpOk (a b : PyData) : Bool := PySem.W.alike a b && (match a with | .none => false | _ => true) && dep a b && (noOb a && noOb b)
def gLt : PyData → PyData → Option PyData
  | .int i, .int j => some (.bool (decide (i < j)))
  | a, b => if cmpOk a b = true then some (.bool (PySem.W.dataLt a b)) else none
def gGt : PyData → PyData → Option PyData
  | .int i, .int j => some (.bool (decide (j < i)))
  | a, b => if cmpOk a b = true then some (.bool (PySem.W.dataLt b a)) else none
def gLe : PyData → PyData → Option PyData
  | .int i, .int j => some (.bool (decide (i ≤ j)))
  | a, b => if cmpOk a b = true then some (.bool (!PySem.W.dataLt b a)) else none
def gGe : PyData → PyData → Option PyData
  | .int i, .int j => some (.bool (decide (j ≤ i)))
  | a, b => if cmpOk a b = true then some (.bool (!PySem.W.dataLt a b)) else none
def isTD : PyData → PyData → Option Bool
  | .none, .none => some true
  | _, .none => some false
  | .bool a, .bool b => some (a == b)
  | _, .bool _ => some false
  | _, _ => none
def gIs (a b : PyData) : Option PyData := (isTD a b).map .bool
def gIsNot (a b : PyData) : Option PyData := (isTD a b).map fun k => .bool (!k)
def gIn (x : PyData) : PyData → Option PyData
  | .list ys => if (decide (min (PyData.depthAll ys) x.depth ≤ 60) && (PyData.plainAll ys && x.plain)) = true then some (.bool (ys.any fun y => PyData.eqv y x)) else none
  | .tuple ys => if (decide (min (PyData.depthAll ys) x.depth ≤ 60) && (PyData.plainAll ys && x.plain)) = true then some (.bool (ys.any fun y => PyData.eqv y x)) else none
  | _ => none
def gNotIn (x : PyData) : PyData → Option PyData
  | .list ys => if (decide (min (PyData.depthAll ys) x.depth ≤ 60) && (PyData.plainAll ys && x.plain)) = true then some (.bool (!ys.any fun y => PyData.eqv y x)) else none
  | .tuple ys => if (decide (min (PyData.depthAll ys) x.depth ≤ 60) && (PyData.plainAll ys && x.plain)) = true then some (.bool (!ys.any fun y => PyData.eqv y x)) else none
  | _ => none
theorem hu60 {A : Around} {k n : Nat} (hr : RoomU n A) (h : k ≤ 60) : A.units + 1 + k < cLine := by have := hr.un; omega
theorem ite_some {α : Type} {c : Prop} [Decidable c] {a b : α} (h : (if c then some a else none) = some b) : c ∧ a = b := by
  split at h
  · rename_i hc; exact ⟨hc, Option.some.inj h⟩
  · cases h
theorem RelV.sc {d : PyData} {v : V} (h : scV d = some v) : True := trivial
theorem boolE {X : Cx} {pins : List (Addr × Obj)} {σ : St} {H : Hp} {s : Shared} {Q : VK} (I : Inv X pins σ H s) {b : Bool} {v : V} (h : scV (.bool b) = some v) (q : Q v H) : EP X pins σ Q (.bool b) s := by
  cases h
  exact ⟨.bl b, H, I, rfl, q⟩
theorem dep_ok {a b : PyData} (h : (dep a b && pln a b) = true) : min a.depth b.depth ≤ 60 ∧ ((a.plain = true ∧ b.plain = true) ∨ nilR a b = true) := by
  unfold dep pln at h
  simp only [Bool.and_eq_true, Bool.or_eq_true, decide_eq_true_eq] at h
  exact h
theorem rcN_nil {X : Cx} {pins : List (Addr × Obj)} {σ : St} {H : Hp} {s : Shared} (I : Inv X pins σ H s) {dx dy : PyData} {A : Around} {x y : V} {a b : Value} (hx : Dq X.K H x dx) (hy : Dq X.K H y dy) (rx : RelV x a) (ry : RelV y b) (hu : A.units + min dx.depth dy.depth < cLine) (h : nilR dx dy = true) :
    SeqAt.RcAt A s a b (PyData.eqv dx dy) ∧ SeqAt.RcNeAt A s a b (!PyData.eqv dx dy) := by
  unfold nilR at h
  split at h
  · rename_i xs
    generalize ez : PyData.tuple [] = z at hy
    cases hx with
    | tup hs hl hz _ =>
      cases rx
      obtain ⟨its, rv, ⟨o, ho, hc, n, hd⟩, _⟩ := I.tuple hs.sq
      cases hy with
      | tup ks kl kz _ =>
        cases ez
        cases ry
        obtain ⟨jts, rw, ⟨o2, ho2, hc2, n2, hd2⟩, _⟩ := I.tuple ks.sq
        have e1 : its.toArray.size = xs.length := by rw [List.size_toArray, ← rv.length, hl]
        have e2 : jts.toArray.size = 0 := by rw [List.size_toArray, ← rw.length, kl]; rfl
        have he : ∀ j (j1 : j < its.toArray.size) (j2 : j < jts.toArray.size), SeqAt.EqAt A.in1 s its.toArray[j] jts.toArray[j] (SeqAt.pairEq xs [] j) := fun j _ j2 => by rw [e2] at j2; cases j2
        show SeqAt.RcAt A s (.ref _) (.ref _) (PyData.eqvAll xs []) ∧ SeqAt.RcNeAt A s (.ref _) (.ref _) (!PyData.eqvAll xs [])
        have e3 : ([] : List PyData).length = jts.toArray.size := e2.symm
        rw [← SeqAt.eqvAll_eq xs [], e3, ← e1]
        exact ⟨SeqAt.RcAt.tuples ⟨_, ho, hc, _, hd⟩ ⟨_, ho2, hc2, _, hd2⟩ (SeqAt.room_here hu) he, SeqAt.RcNeAt.tuples ⟨_, ho, hc, _, hd⟩ ⟨_, ho2, hc2, _, hd2⟩ (SeqAt.room_here hu) he⟩
      | _ => cases ez
  · rename_i xs
    generalize ez : PyData.list [] = z at hy
    cases hx with
    | lst hs hl hz _ =>
      cases rx
      obtain ⟨_, its, n, rv, ho⟩ := rdL I hs
      cases hy with
      | lst ks kl kz _ =>
        cases ez
        cases ry
        obtain ⟨_, jts, n2, rw, ho2⟩ := rdL I ks
        have e1 : its.toArray.size = xs.length := by rw [List.size_toArray, ← rv.length, hl]
        have e2 : jts.toArray.size = 0 := by rw [List.size_toArray, ← rw.length, kl]; rfl
        show SeqAt.RcAt A s (.ref _) (.ref _) (PyData.eqvAll xs []) ∧ SeqAt.RcNeAt A s (.ref _) (.ref _) (!PyData.eqvAll xs [])
        cases xs with
        | nil =>
          have he : ∀ j (j1 : j < its.toArray.size) (j2 : j < jts.toArray.size), SeqAt.EqAt A.in1 s its.toArray[j] jts.toArray[j] (SeqAt.pairEq [] [] j) := fun j _ j2 => by rw [e2] at j2; cases j2
          have z : its.toArray.size = jts.toArray.size := by rw [e1, e2]; rfl
          rw [← SeqAt.eqvAll_same_length (show ([] : List PyData).length = ([] : List PyData).length from rfl)]
          have e3 : ([] : List PyData).length = its.toArray.size := e1.symm
          rw [e3]
          exact ⟨SeqAt.RcAt.lists ⟨_, ho, rfl, _, rfl⟩ ⟨_, ho2, rfl, _, rfl⟩ z (SeqAt.room_here hu) he, SeqAt.RcNeAt.lists ⟨_, ho, rfl, _, rfl⟩ ⟨_, ho2, rfl, _, rfl⟩ z (SeqAt.room_here hu) he⟩
        | cons x xs =>
          have z : its.toArray.size ≠ jts.toArray.size := by rw [e1, e2, List.length_cons]; omega
          rw [SeqAt.eqvAll_other_length (by simp : (x :: xs).length ≠ ([] : List PyData).length)]
          exact ⟨SeqAt.RcAt.lists_lengths ⟨_, ho, rfl, _, rfl⟩ ⟨_, ho2, rfl, _, rfl⟩ (by simpa using z) (SeqAt.room_here hu), SeqAt.RcNeAt.lists_lengths ⟨_, ho, rfl, _, rfl⟩ ⟨_, ho2, rfl, _, rfl⟩ (by simpa using z) (SeqAt.room_here hu)⟩
      | _ => cases ez
  · cases h
theorem in_ok {xs : List PyData} {d : PyData} (h : (decide (min (PyData.depthAll xs) d.depth ≤ 60) && (PyData.plainAll xs && d.plain)) = true) : min (PyData.depthAll xs) d.depth ≤ 60 ∧ PyData.plainAll xs = true ∧ d.plain = true := by
  simp only [Bool.and_eq_true, decide_eq_true_eq] at h
  exact h
theorem cmp_ok {a b : PyData} (h : cmpOk a b = true) : PySem.W.alike a b = true ∧ a ≠ .none ∧ min a.depth b.depth ≤ 60 ∧ noOb a = true ∧ noOb b = true := by
  unfold cmpOk at h
  simp only [Bool.and_eq_true] at h
  refine ⟨h.1.1.1, fun e => ?_, of_decide_eq_true h.1.2, h.2.1, h.2.2⟩
  subst e
  have := h.1.1.2
  simp at this
section
variable {ι : Type} {Xf : ι → Cx} {P : Program} {w : World} {K : PySem.W.Frag} {mg : Str → Option Value} {base : Heap} {n : Nat} [F : Fam Xf P w K mg base n]
include F
theorem op_eqG' (i : ι) : OpR (Xf i) (compareOp .Eq) (r2S K gEq) := by
  intro pins s σ H x y v u Q I rx ry h
  obtain ⟨dx, dy, d, z, hx, hy, e, hz, q⟩ := h
  rw [← F.kk i] at hx hy
  obtain ⟨hd, rfl⟩ := ite_some e
  have hu : (Xf i).A.units + min dx.depth dy.depth < cLine := by have := hu60 (F.room i) (dep_ok hd).1; omega
  rcases (dep_ok hd).2 with hp | hn
  · obtain ⟨as, r1⟩ := hx.reads I (plain_noOb _ hp.1) rx
    obtain ⟨bs, r2⟩ := hy.reads I (plain_noOb _ hp.2) ry
    exact PySem.SeqAt.eq_plain r1 r2 hp.1 hp.2 hu (boolE I hz q)
  · exact (rcN_nil I hx hy rx ry hu hn).1 _ _ _ _ (boolE I hz q)
theorem op_neG' (i : ι) : OpR (Xf i) (compareOp .NotEq) (r2S K gNe) := by
  intro pins s σ H x y v u Q I rx ry h
  obtain ⟨dx, dy, d, z, hx, hy, e, hz, q⟩ := h
  rw [← F.kk i] at hx hy
  obtain ⟨hd, rfl⟩ := ite_some e
  have hu : (Xf i).A.units + min dx.depth dy.depth < cLine := by have := hu60 (F.room i) (dep_ok hd).1; omega
  rcases (dep_ok hd).2 with hp | hn
  · obtain ⟨as, r1⟩ := hx.reads I (plain_noOb _ hp.1) rx
    obtain ⟨bs, r2⟩ := hy.reads I (plain_noOb _ hp.2) ry
    exact PySem.SeqAt.ne_plain r1 r2 hp.1 hp.2 hu (boolE I hz q)
  · exact (rcN_nil I hx hy rx ry hu hn).2 _ _ _ _ (boolE I hz q)
theorem op_ltG' (i : ι) : OpR (Xf i) (compareOp .Lt) (r2S K gLt) := by
  intro pins s σ H x y v u Q I rx ry h
  obtain ⟨dx, dy, d, z, hx, hy, e, hz, q⟩ := h
  rw [← F.kk i] at hx hy
  unfold gLt at e
  split at e
  · cases e
    obtain ⟨as, r1⟩ := hx.reads I rfl rx
    obtain ⟨bs, r2⟩ := hy.reads I rfl ry
    exact PySem.W.lt_data r1 r2 rfl (fun z => nomatch z) (by have := hu60 (F.room i) (k := 0) (by omega); simp only [PyData.depth]; omega) (by rw [PySem.W.dataLt_int]; exact boolE I hz q)
  · obtain ⟨hd, rfl⟩ := ite_some e
    obtain ⟨h1, h2, h3, h4, h5⟩ := cmp_ok hd
    obtain ⟨as, r1⟩ := hx.reads I h4 rx
    obtain ⟨bs, r2⟩ := hy.reads I h5 ry
    exact PySem.W.lt_data r1 r2 h1 h2 (by have := hu60 (F.room i) h3; omega) (boolE I hz q)
theorem op_gtG' (i : ι) : OpR (Xf i) (compareOp .Gt) (r2S K gGt) := by
  intro pins s σ H x y v u Q I rx ry h
  obtain ⟨dx, dy, d, z, hx, hy, e, hz, q⟩ := h
  rw [← F.kk i] at hx hy
  unfold gGt at e
  split at e
  · cases e
    obtain ⟨as, r1⟩ := hx.reads I rfl rx
    obtain ⟨bs, r2⟩ := hy.reads I rfl ry
    exact PySem.W.gt_data r1 r2 rfl (fun z => nomatch z) (by have := hu60 (F.room i) (k := 0) (by omega); simp only [PyData.depth]; omega) (by rw [PySem.W.dataLt_int]; exact boolE I hz q)
  · obtain ⟨hd, rfl⟩ := ite_some e
    obtain ⟨h1, h2, h3, h4, h5⟩ := cmp_ok hd
    obtain ⟨as, r1⟩ := hx.reads I h4 rx
    obtain ⟨bs, r2⟩ := hy.reads I h5 ry
    exact PySem.W.gt_data r1 r2 h1 h2 (by have := hu60 (F.room i) h3; omega) (boolE I hz q)
theorem op_leG' (i : ι) : OpR (Xf i) (compareOp .LtE) (r2S K gLe) := by
  intro pins s σ H x y v u Q I rx ry h
  obtain ⟨dx, dy, d, z, hx, hy, e, hz, q⟩ := h
  rw [← F.kk i] at hx hy
  unfold gLe at e
  split at e
  · cases e
    obtain ⟨as, r1⟩ := hx.reads I rfl rx
    obtain ⟨bs, r2⟩ := hy.reads I rfl ry
    exact PySem.W.le_data r1 r2 rfl (fun z => nomatch z) (by have := hu60 (F.room i) (k := 0) (by omega); simp only [PyData.depth]; omega) (by rw [PySem.W.dataLt_int, PySem.W.not_lt_int]; exact boolE I hz q)
  · obtain ⟨hd, rfl⟩ := ite_some e
    obtain ⟨h1, h2, h3, h4, h5⟩ := cmp_ok hd
    obtain ⟨as, r1⟩ := hx.reads I h4 rx
    obtain ⟨bs, r2⟩ := hy.reads I h5 ry
    exact PySem.W.le_data r1 r2 h1 h2 (by have := hu60 (F.room i) h3; omega) (boolE I hz q)
theorem op_geG' (i : ι) : OpR (Xf i) (compareOp .GtE) (r2S K gGe) := by
  intro pins s σ H x y v u Q I rx ry h
  obtain ⟨dx, dy, d, z, hx, hy, e, hz, q⟩ := h
  rw [← F.kk i] at hx hy
  unfold gGe at e
  split at e
  · cases e
    obtain ⟨as, r1⟩ := hx.reads I rfl rx
    obtain ⟨bs, r2⟩ := hy.reads I rfl ry
    exact PySem.W.ge_data r1 r2 rfl (fun z => nomatch z) (by have := hu60 (F.room i) (k := 0) (by omega); simp only [PyData.depth]; omega) (by rw [PySem.W.dataLt_int, PySem.W.not_lt_int]; exact boolE I hz q)
  · obtain ⟨hd, rfl⟩ := ite_some e
    obtain ⟨h1, h2, h3, h4, h5⟩ := cmp_ok hd
    obtain ⟨as, r1⟩ := hx.reads I h4 rx
    obtain ⟨bs, r2⟩ := hy.reads I h5 ry
    exact PySem.W.ge_data r1 r2 h1 h2 (by have := hu60 (F.room i) h3; omega) (boolE I hz q)
theorem op_inG' (i : ι) : OpR (Xf i) (compareOp .In) (r2S K gIn) := by
  intro pins s σ H x y v u Q I rx ry h
  obtain ⟨dx, dy, d, z, hx, hy, e, hz, q⟩ := h
  rw [← F.kk i] at hx hy
  unfold gIn at e
  split at e
  · obtain ⟨hd, rfl⟩ := ite_some e
    obtain ⟨as, r1⟩ := hx.reads I (plain_noOb _ (in_ok hd).2.2) rx
    obtain ⟨bs, r2⟩ := hy.reads I (plainAll_noOb _ (in_ok hd).2.1) ry
    exact PySem.SeqAt.in_list_data r2 r1 (in_ok hd).2.1 (in_ok hd).2.2 (hu60 (F.room i) (in_ok hd).1) (boolE I hz q)
  · obtain ⟨hd, rfl⟩ := ite_some e
    obtain ⟨as, r1⟩ := hx.reads I (plain_noOb _ (in_ok hd).2.2) rx
    obtain ⟨bs, r2⟩ := hy.reads I (plainAll_noOb _ (in_ok hd).2.1) ry
    exact PySem.SeqAt.in_tuple_data r2 r1 (in_ok hd).2.1 (in_ok hd).2.2 (hu60 (F.room i) (in_ok hd).1) (boolE I hz q)
  · cases e
theorem op_notInG' (i : ι) : OpR (Xf i) (compareOp .NotIn) (r2S K gNotIn) := by
  intro pins s σ H x y v u Q I rx ry h
  obtain ⟨dx, dy, d, z, hx, hy, e, hz, q⟩ := h
  rw [← F.kk i] at hx hy
  unfold gNotIn at e
  split at e
  · obtain ⟨hd, rfl⟩ := ite_some e
    obtain ⟨as, r1⟩ := hx.reads I (plain_noOb _ (in_ok hd).2.2) rx
    obtain ⟨bs, r2⟩ := hy.reads I (plainAll_noOb _ (in_ok hd).2.1) ry
    exact PySem.SeqAt.notIn_list_data r2 r1 (in_ok hd).2.1 (in_ok hd).2.2 (hu60 (F.room i) (in_ok hd).1) (boolE I hz q)
  · obtain ⟨hd, rfl⟩ := ite_some e
    obtain ⟨as, r1⟩ := hx.reads I (plain_noOb _ (in_ok hd).2.2) rx
    obtain ⟨bs, r2⟩ := hy.reads I (plainAll_noOb _ (in_ok hd).2.1) ry
    exact PySem.SeqAt.notIn_tuple_data r2 r1 (in_ok hd).2.1 (in_ok hd).2.2 (hu60 (F.room i) (in_ok hd).1) (boolE I hz q)
  · cases e
theorem opEq : Op2 Xf K (compareOp .Eq) .s gEq := ⟨_, op_eqG', d2S fun a b d e => by obtain ⟨_, rfl⟩ := ite_some e; exact ⟨_, rfl⟩⟩
theorem opNe : Op2 Xf K (compareOp .NotEq) .s gNe := ⟨_, op_neG', d2S fun a b d e => by obtain ⟨_, rfl⟩ := ite_some e; exact ⟨_, rfl⟩⟩
theorem opLt : Op2 Xf K (compareOp .Lt) .s gLt := ⟨_, op_ltG', d2S fun a b d e => by
  unfold gLt at e; split at e
  · cases e; exact ⟨_, rfl⟩
  · obtain ⟨_, rfl⟩ := ite_some e; exact ⟨_, rfl⟩⟩
theorem opGt : Op2 Xf K (compareOp .Gt) .s gGt := ⟨_, op_gtG', d2S fun a b d e => by
  unfold gGt at e; split at e
  · cases e; exact ⟨_, rfl⟩
  · obtain ⟨_, rfl⟩ := ite_some e; exact ⟨_, rfl⟩⟩
theorem opLe : Op2 Xf K (compareOp .LtE) .s gLe := ⟨_, op_leG', d2S fun a b d e => by
  unfold gLe at e; split at e
  · cases e; exact ⟨_, rfl⟩
  · obtain ⟨_, rfl⟩ := ite_some e; exact ⟨_, rfl⟩⟩
theorem opGe : Op2 Xf K (compareOp .GtE) .s gGe := ⟨_, op_geG', d2S fun a b d e => by
  unfold gGe at e; split at e
  · cases e; exact ⟨_, rfl⟩
  · obtain ⟨_, rfl⟩ := ite_some e; exact ⟨_, rfl⟩⟩
theorem opIn : Op2 Xf K (compareOp .In) .s gIn := ⟨_, op_inG', d2S fun a b d e => by
  unfold gIn at e; split at e
  · obtain ⟨_, rfl⟩ := ite_some e; exact ⟨_, rfl⟩
  · obtain ⟨_, rfl⟩ := ite_some e; exact ⟨_, rfl⟩
  · cases e⟩
theorem opNotIn : Op2 Xf K (compareOp .NotIn) .s gNotIn := ⟨_, op_notInG', d2S fun a b d e => by
  unfold gNotIn at e; split at e
  · obtain ⟨_, rfl⟩ := ite_some e; exact ⟨_, rfl⟩
  · obtain ⟨_, rfl⟩ := ite_some e; exact ⟨_, rfl⟩
  · cases e⟩
end
end DL
namespace DL
open PySem L2 PySem.Spec
def rCatR : R2 := fun x y H Q => ∃ l b xs zs, x = .ref l ∧ y = .ref b ∧ Rd H l (.lst xs) ∧ Rd H b (.lst zs) ∧ xs.length + zs.length ≤ sizeLine ∧ ∀ p, H p = none → Q (.ref p) (upd H p (.lst (xs ++ zs)))
theorem op_catR {X : Cx} : OpR X (binaryOp .Add) rCatR := by
  intro pins s σ H x y v u Q I rx ry h
  obtain ⟨l, b, xs, zs, rfl, rfl, hH, hB, hz, q⟩ := h
  cases rx
  cases ry
  obtain ⟨z, its, n, r, e⟩ := rdL I hH
  obtain ⟨z2, its2, n2, r2, e2⟩ := rdL I hB
  have hl := r.length
  have hl2 := r2.length
  refine PySem.P.add_list e e2 ?_ (by rw [List.size_toArray, List.size_toArray]; omega)
  have ea : its.toArray ++ its2.toArray = (its ++ its2).toArray := by simp
  rw [ea]
  exact ⟨.ref _, _, I.lnew (t' := s.toks) (r.append r2) (by rw [List.length_append]; omega), rfl, q _ I.fresh⟩
def rRepR : R2 := fun x y H Q => ∃ l k xs, x = .ref l ∧ y = .int k ∧ Rd H l (.lst xs) ∧ -(2 ^ 63) ≤ k ∧ k < 2 ^ 63 ∧ xs.length * k.toNat ≤ sizeLine ∧
  ∀ p, H p = none → Q (.ref p) (upd H p (.lst (List.replicate k.toNat xs).flatten))
theorem op_repR {X : Cx} : OpR X (binaryOp .Mult) rRepR := by
  intro pins s σ H x y v u Q I rx ry h
  obtain ⟨l, k, xs, rfl, rfl, hH, h1, h2, hz, q⟩ := h
  cases rx
  obtain ⟨t, rfl⟩ := ry
  obtain ⟨z, its, n, r, e⟩ := rdL I hH
  have hl := r.length
  have hlen : its.toArray.size * k.toNat ≤ sizeLine := by rw [List.size_toArray, ← hl]; exact hz
  have hcap : ¬ its.toArray.size * k.toNat > (2 ^ 63 - 1) / 8 := by
    have : (sizeLine : Nat) ≤ (2 ^ 63 - 1) / 8 := by decide
    omega
  have hfit : ¬ (!Builtin.List.listFitsIndex k) = true := by
    rw [fitsIndex_both h1 h2]
    exact Bool.false_ne_true
  have hlong : ¬ Builtin.List.listTooLong (its.toArray.size * k.toNat) = true := by
    rw [notLongL hlen]
    exact Bool.false_ne_true
  have hnew : List.foldl (fun x1 x2 => x1 ++ x2) #[] (List.replicate (if its.toArray.isEmpty = true then 0 else k.toNat) its.toArray) = (List.replicate k.toNat its).flatten.toArray := by
    have f0 : ∀ m : Nat, List.foldl (fun x1 x2 => x1 ++ x2) #[] (List.replicate m its.toArray) = (List.replicate m its).flatten.toArray := fun m => by
      have := foldl_rep its m []
      rw [List.nil_append] at this
      exact this
    rw [f0]
    cases its with
    | nil => simp
    | cons a r' => simp
  refine wpAny_binaryOp_repeat_ref (T := "list") (U := "int") (by decide) ⟨_, e, rfl⟩ (fun s' => typeIs_int s' k t) noFill_list_mul F.fills_int_mul F.slot_int_rmul repeat_list F.slot_int_index.lookup
    (call_meets F.slot_int_rmul (typeIs_int s k t) F.entry_int_rmul (F.args_int_rmul_2 _ _) (int___rmul___int_list k t l its.toArray n)
      ⟨e, rfl, ⟨_, e, rfl⟩, call_meets F.slot_list_mul ⟨_, e, rfl⟩ F.entry_list_mul (F.args_list_mul_2 _ _) (AutoListH.list___mul___list_int_3 l its.toArray n k t hfit hcap hlong) ⟨e, ?_⟩⟩)
  rw [hnew]
  exact ⟨.ref _, _, I.lnew (t' := s.toks) (r.rep k.toNat) (by rw [PyProof.Rows.lm_len_rep_flat, Nat.mul_comm]; exact hz), rfl, q _ I.fresh⟩
def bI (b : Bool) : Int := if b = true then 1 else 0
theorem gv_addB (b : Bool) (j : Int) (t : Tok) : Gives (Builtin.«int.__add__» ⟨[.bool b, .int j t], []⟩) (.int (bI b + j)) :=
  .of_wp fun M A E s Q h => by
    obtain ⟨hp, g, d, tk, os⟩ := s
    wp_walk
    exact ⟨_, rfl, h⟩
theorem gv_subB (b : Bool) (j : Int) (t : Tok) : Gives (Builtin.«int.__sub__» ⟨[.bool b, .int j t], []⟩) (.int (bI b - j)) :=
  .of_wp fun M A E s Q h => by
    obtain ⟨hp, g, d, tk, os⟩ := s
    wp_walk
    exact ⟨_, rfl, h⟩
def rBI (g : Int → Int → Int) : R2 := fun x y H Q => ∃ b j, x = .bl b ∧ y = .int j ∧ Q (.int (g (bI b) j)) H
theorem op_addBI {X : Cx} : OpR X (binaryOp .Add) (rBI fun i j => i + j) := by
  intro pins s σ H x y v u Q I rx ry h
  obtain ⟨b, j, rfl, rfl, q⟩ := h
  cases rx
  obtain ⟨t, rfl⟩ := ry
  exact binaryOp_left_gives (op := .Add) (T := "bool") (U := "int") (by decide) rfl (fun s' => typeIs_int s' j t) F.fills_bool_add F.fills_int_add F.sub_int_bool F.slot_bool_add F.slot_int_radd F.entry_int_add (F.args_int_add_2 _ _) (gv_addB b j t) trivial
    ⟨.int (bI b + j), H, I.tok _, ⟨_, rfl⟩, q⟩
theorem op_subBI {X : Cx} : OpR X (binaryOp .Sub) (rBI fun i j => i - j) := by
  intro pins s σ H x y v u Q I rx ry h
  obtain ⟨b, j, rfl, rfl, q⟩ := h
  cases rx
  obtain ⟨t, rfl⟩ := ry
  exact binaryOp_left_gives (op := .Sub) (T := "bool") (U := "int") (by decide) rfl (fun s' => typeIs_int s' j t) F.fills_bool_sub F.fills_int_sub F.sub_int_bool F.slot_bool_sub F.slot_int_rsub F.entry_int_sub (F.args_int_sub_2 _ _) (gv_subB b j t) trivial
    ⟨.int (bI b - j), H, I.tok _, ⟨_, rfl⟩, q⟩
def gAdd : PyData → PyData → Option PyData
  | .int i, .int j => some (.int (i + j))
  | .bool b, .int j => some (.int (bI b + j))
  | .str i, .str j => if i.length + j.length ≤ sizeLine then some (.str (i ++ j)) else none
  | .tuple a, .tuple b => if a.length + b.length ≤ sizeLine then some (.tuple (a ++ b)) else none
  | .list a, .list b => if a.length + b.length ≤ sizeLine then some (.list (a ++ b)) else none
  | _, _ => none
def gAddL : PyData → PyData → Option PyData
  | .list a, .list b => if a.length + b.length ≤ sizeLine then some (.list (a ++ b)) else none
  | _, _ => none
def gSub : PyData → PyData → Option PyData
  | .int i, .int j => some (.int (i - j))
  | .bool b, .int j => some (.int (bI b - j))
  | _, _ => none
def mulOk (i j : Int) : Bool := decide (i.natAbs < 2 ^ 64) || decide (j.natAbs < 2 ^ 64)
def gMul : PyData → PyData → Option PyData
  | .int i, .int j => if mulOk i j = true then some (.int (i * j)) else none
  | .list xs, .int k => if -(2 ^ 63) ≤ k ∧ k < 2 ^ 63 ∧ xs.length * k.toNat ≤ sizeLine then some (.list (List.replicate k.toNat xs).flatten) else none
  | .tuple xs, .int k => if -1000 ≤ k ∧ k ≤ 1000 ∧ xs.length ≤ 1000 then some (.tuple (List.replicate k.toNat xs).flatten) else none
  | _, _ => none
def gMulL : PyData → PyData → Option PyData
  | .list xs, .int k => if -(2 ^ 63) ≤ k ∧ k < 2 ^ 63 ∧ xs.length * k.toNat ≤ sizeLine then some (.list (List.replicate k.toNat xs).flatten) else none
  | _, _ => none
def gFdiv : PyData → PyData → Option PyData
  | .int i, .int j => if 0 < j ∧ j.natAbs.log2 < 9000 then some (.int (i / j)) else none
  | _, _ => none
def gMod : PyData → PyData → Option PyData
  | .int i, .int j => if 0 < j then some (.int (i % j)) else none
  | _, _ => none
def gPow : PyData → PyData → Option PyData
  | .int i, .int j => if 0 ≤ j ∧ j ≤ 1000000 ∧ i.natAbs < 2 ^ 64 then some (.int (i ^ j.toNat)) else none
  | _, _ => none
def gNeg : PyData → Option PyData
  | .int i => some (.int (-i))
  | _ => none
section
variable {K : PySem.W.Frag} {G H : Hp} {m : List Ty} {σ : St} {e : En} {A : List Addr} {d : PyData} {Q : VK}
theorem dq_lst {G : Hp} {x : V} {ds : List PyData} (h : Dq K G x (.list ds)) : ∃ a xs, x = .ref a ∧ Rd G a (.lst xs) ∧ xs.length ≤ sizeLine ∧ DqA K G xs ds := by
  cases h with
  | lst h1 h2 h3 h4 => exact ⟨_, _, rfl, h1, h3, h2, h4⟩
theorem dq_tup {G : Hp} {x : V} {ds : List PyData} (h : Dq K G x (.tuple ds)) : ∃ a xs, x = .ref a ∧ SqT K G a xs ∧ xs.length ≤ sizeLine ∧ DqA K G xs ds := by
  cases h with
  | tup h1 h2 h3 h4 => exact ⟨_, _, rfl, h1.sq, h3, h2, h4⟩
theorem dq_int {G : Hp} {x : V} {i : Int} (h : Dq K G x (.int i)) : x = .int i := by cases h; rfl
theorem dq_bool {G : Hp} {x : V} {i : Bool} (h : Dq K G x (.bool i)) : x = .bl i := by cases h; rfl
theorem dq_str {G : Hp} {x : V} {i : Str} (h : Dq K G x (.str i)) : x = .str i ∧ i.length ≤ sizeLine := by cases h; exact ⟨rfl, by assumption⟩
theorem DqA.flat {G : Hp} {xs : List V} {ds : List PyData} (h : DqA K G xs ds) : ∀ k : Nat, DqA K G (List.replicate k xs).flatten (List.replicate k ds).flatten
  | 0 => DqA.nil
  | k + 1 => by rw [List.replicate_succ, List.replicate_succ, List.flatten_cons, List.flatten_cons]; exact h.append (DqA.flat h k)
theorem kfrz {ty : Ty} (hn : nou ty = true) (k : ∀ (G' H' : Hp) (v : V) (Av A' : List Addr), Step A G H (Av ++ A') G' H' → Stt K m G' H' σ e A' → Own K G' H' .s d (some v) Av → (Av ++ A').Nodup → Q v H') :
    ∀ (G' H' : Hp) (v : V) (Av A' : List Addr), Step A G H (Av ++ A') G' H' → Stt K m G' H' σ e A' → Own K G' H' ty d (some v) Av → (Av ++ A').Nodup → Q v H' := fun G1 H1 v1 A1 B1 s1 st1 o1 nd1 => by
  obtain ⟨s2, st2, sg, hl⟩ := frz st1 (own_at o1) nd1
  obtain ⟨x, hx, q⟩ := own_frz o1 sg hl hn
  cases hx
  have s0 : Step A G H ([] ++ B1) (lay G1 H1 A1) H1 := s1.seq0 s2
  exact k _ _ v1 [] B1 s0 st2 (.s q) st2.nd
theorem d2_catL : D2 K rCatR (.l .s) gAddL := fun {m G H σ e A x y dx dy d Q} st hx hy ee k => by
  unfold gAddL at ee
  split at ee
  · obtain ⟨hz, rfl⟩ := ite_some ee
    obtain ⟨a, xs, rfl, r1, z1, q1⟩ := dq_lst hx
    obtain ⟨b, ys, rfl, r2, z2, q2⟩ := dq_lst hy
    have l1 := q1.1
    have l2 := q2.1
    exact ⟨a, b, xs, ys, rfl, rfl, same_rd st.sub r1, same_rd st.sub r2, by omega, ans_lst st (q1.append q2) (by rw [List.length_append]; omega) k⟩
  · cases ee
theorem d2_repL : D2 K rRepR (.l .s) gMulL := fun {m G H σ e A x y dx dy d Q} st hx hy ee k => by
  unfold gMulL at ee
  split at ee
  · obtain ⟨hz, rfl⟩ := ite_some ee
    obtain ⟨a, xs, rfl, r1, z1, q1⟩ := dq_lst hx
    obtain rfl := dq_int hy
    have l1 := q1.1
    exact ⟨a, _, xs, rfl, rfl, same_rd st.sub r1, hz.1, hz.2.1, by rw [l1]; exact hz.2.2, ans_lst st (q1.flat _) (by rw [PyProof.Rows.lm_len_rep_flat, l1, Nat.mul_comm]; exact hz.2.2) k⟩
  · cases ee
end
section
variable {ι : Type} {Xf : ι → Cx} {P : Program} {w : World} {K : PySem.W.Frag} {mg : Str → Option Value} {base : Heap} {n : Nat} [F : Fam Xf P w K mg base n]
include F
theorem kkR {r : PySem.W.Frag → R2} {f : Value → Value → Sem Value} (h : ∀ X : Cx, OpR X f (r X.K)) (i : ι) : OpR (Xf i) f (r K) := by
  have := h (Xf i)
  rw [F.kk i] at this
  exact this
theorem opAdd : Op2 Xf K (binaryOp .Add) .s gAdd := by
  refine ⟨_, fun i => OpR.or op_addBI (OpR.or (op_add) (OpR.or op_add_str (OpR.or (kkR (fun X => op_catN) i) op_catR))), fun {m G H σ e A x y dx dy d Q} st hx hy ee k => ?_⟩
  unfold gAdd at ee
  split at ee
  · cases ee
    obtain rfl := dq_int hx
    obtain rfl := dq_int hy
    exact .inr (.inl ⟨_, _, rfl, rfl, ans_s st (.int _) k⟩)
  · cases ee
    obtain rfl := dq_bool hx
    obtain rfl := dq_int hy
    exact .inl ⟨_, _, rfl, rfl, ans_s st (.int _) k⟩
  · obtain ⟨hz, rfl⟩ := ite_some ee
    obtain ⟨rfl, z1⟩ := dq_str hx
    obtain ⟨rfl, z2⟩ := dq_str hy
    refine .inr (.inr (.inl ⟨_, _, rfl, rfl, hz, ans_s st (.str _ ?_) k⟩))
    rename_i i j
    show (i.cps ++ j.cps).size ≤ _
    rw [Array.size_append]; exact hz
  · obtain ⟨hz, rfl⟩ := ite_some ee
    obtain ⟨a, xs, rfl, r1, z1, q1⟩ := dq_tup hx
    obtain ⟨b, ys, rfl, r2, z2, q2⟩ := dq_tup hy
    have l1 := q1.1
    have l2 := q2.1
    refine .inr (.inr (.inr (.inl ⟨a, b, xs, ys, rfl, rfl, same_seqT st.sub r1, same_seqT st.sub r2, by omega, fun h0 => ?_, fun h0 h1 => ?_, fun _ _ => ans_tup st (q1.append q2) (by rw [List.length_append]; omega) k⟩)))
    · subst h0
      have : (_ : List PyData) = [] := List.length_eq_zero_iff.mp l1.symm
      subst this
      exact ans_s st hy k
    · subst h1
      have : (_ : List PyData) = [] := List.length_eq_zero_iff.mp l2.symm
      subst this
      rw [List.append_nil] at k
      exact ans_s st hx k
  · exact .inr (.inr (.inr (.inr (d2_catL st hx hy ee (kfrz rfl k)))))
  · cases ee
theorem opSub : Op2 Xf K (binaryOp .Sub) .s gSub := ⟨_, fun i => OpR.or op_subBI op_sub, fun {m G H σ e A x y dx dy d Q} st hx hy ee k => by
  unfold gSub at ee
  split at ee
  · cases ee
    obtain rfl := dq_int hx
    obtain rfl := dq_int hy
    exact .inr ⟨_, _, rfl, rfl, ans_s st (.int _) k⟩
  · cases ee
    obtain rfl := dq_bool hx
    obtain rfl := dq_int hy
    exact .inl ⟨_, _, rfl, rfl, ans_s st (.int _) k⟩
  · cases ee⟩
omit F in
theorem mul_same (l : Addr) (its : Array Value) (n : Nat) (dc : Option Addr) (sl : Array (Option Value)) (x : Int) (u : Tok) (k0 : (decide (x < -(2 ^ 63)) || decide (x ≥ 2 ^ 63)) = false) (k1 : (its.isEmpty || x == 1) = true) :
    Meets (Builtin.«tuple.__mul__» ⟨[.ref l, .int x u], []⟩) (fun _ R s => s.heap.get? l = some { cls := .type "tuple", dict := dc, data := .seq its n, slots := sl } ∧ R (.ok (.ret (Value.ref l))) s) :=
  .of_wp fun prog w A R s h => by
    obtain ⟨hp, gg, dr, tk, os⟩ := s
    obtain ⟨at1, h⟩ := h
    have ix := AutoSeq1.idx_int
    wp_walk using wpAny_loadPart' at1
    repeat (first
      | (refine wpAny_ite_false (decide_eq_false (by rw [k0]; exact Bool.false_ne_true)) ?_; wp_walk using wpAny_loadPart' at1)
      | (refine wpAny_ite_true (decide_eq_true k1) ?_; wp_walk using wpAny_loadPart' at1))
    exact ⟨_, rfl, h⟩
omit F in
theorem mul_none (l : Addr) (its : Array Value) (n : Nat) (dc : Option Addr) (sl : Array (Option Value)) (x : Int) (u : Tok) (k0 : (decide (x < -(2 ^ 63)) || decide (x ≥ 2 ^ 63)) = false) (k1 : (its.isEmpty || x == 1) = false) (k2 : (decide (x ≤ 0) || its.isEmpty) = true) :
    Meets (Builtin.«tuple.__mul__» ⟨[.ref l, .int x u], []⟩) (fun _ R s => s.heap.get? l = some { cls := .type "tuple", dict := dc, data := .seq its n, slots := sl } ∧
      R (.ok (.ret (Value.ref s.heap.objs.size))) { s with heap := s.heap.push { cls := Value.type "tuple", data := Data.seq #[] }, toks := s.toks }) :=
  .of_wp fun prog w A R s h => by
    obtain ⟨hp, gg, dr, tk, os⟩ := s
    obtain ⟨at1, h⟩ := h
    have ix := AutoSeq1.idx_int
    wp_walk using wpAny_loadPart' at1
    repeat (first
      | (refine wpAny_ite_false (decide_eq_false (by rw [k0]; exact Bool.false_ne_true)) ?_; wp_walk using wpAny_loadPart' at1)
      | (refine wpAny_ite_false (decide_eq_false (by rw [k1]; exact Bool.false_ne_true)) ?_; wp_walk using wpAny_loadPart' at1)
      | (refine wpAny_ite_true (decide_eq_true k2) ?_; wp_walk using wpAny_loadPart' at1))
    exact ⟨_, rfl, h⟩
def rMulE (K : PySem.W.Frag) : R2 := fun x y H Q => ∃ l k xs, x = .ref l ∧ y = .int k ∧ SqT K H l xs ∧ -1000 ≤ k ∧ k ≤ 1000 ∧ (((xs = [] ∨ k = 1) ∧ Q (.ref l) H) ∨ (xs ≠ [] ∧ k ≤ 0 ∧ NewT H [] Q))
omit F in
theorem op_mulE {X : Cx} : OpR X (binaryOp .Mult) (rMulE X.K) := by
  intro pins s σ H x y v u Q I rx ry h
  obtain ⟨l, k, xs, rfl, rfl, hT, b1, b2, h⟩ := h
  cases rx
  obtain ⟨t, rfl⟩ := ry
  obtain ⟨its, r, ⟨⟨cls, dc, data, sl⟩, ho, hc, n, hd⟩, _⟩ := I.tuple hT
  simp only at hc hd
  subst hc hd
  have le : its.length = xs.length := r.length.symm
  have k0 : (decide (k < -(2 ^ 63)) || decide (k ≥ 2 ^ 63)) = false := by
    rw [decide_eq_false (by omega), decide_eq_false (by omega)]; rfl
  rcases h with ⟨hx, q⟩ | ⟨hx, hk, q⟩
  · have k1 : (its.toArray.isEmpty || k == 1) = true := by
      rcases hx with hx | hx
      · subst hx
        obtain rfl : its = [] := List.eq_nil_of_length_eq_zero le
        rfl
      · subst hx; exact Bool.or_true _
    exact wpAny_binaryOp_repeat_ref (T := "tuple") (U := "int") (by decide) ⟨_, ho, rfl⟩ (fun s' => typeIs_int s' k t) noFill_tuple_mul F.fills_int_mul F.slot_int_rmul repeat_tuple F.slot_int_index.lookup
      (call_meets F.slot_int_rmul (typeIs_int s k t) F.entry_int_rmul (F.args_int_rmul_2 _ _) (int_rmul_tuple k t l its.toArray n dc sl)
        ⟨ho, rfl, ⟨_, ho, rfl⟩, call_meets F.slot_tuple_mul ⟨_, ho, rfl⟩ F.entry_tuple_mul (F.args_tuple_mul_2 _ _) (mul_same l its.toArray n dc sl k t k0 k1) ⟨ho, ⟨.ref l, H, I, rfl, q⟩⟩⟩)
  · have ne : its.toArray.isEmpty = false := by
      cases its with
      | nil => exact absurd (List.eq_nil_of_length_eq_zero le.symm) hx
      | cons a b => rfl
    have k1 : (its.toArray.isEmpty || k == 1) = false := by
      rw [ne, Bool.false_or]
      exact beq_eq_false_iff_ne.mpr (by omega)
    have k2 : (decide (k ≤ 0) || its.toArray.isEmpty) = true := by rw [decide_eq_true hk]; rfl
    refine wpAny_binaryOp_repeat_ref (T := "tuple") (U := "int") (by decide) ⟨_, ho, rfl⟩ (fun s' => typeIs_int s' k t) noFill_tuple_mul F.fills_int_mul F.slot_int_rmul repeat_tuple F.slot_int_index.lookup
      (call_meets F.slot_int_rmul (typeIs_int s k t) F.entry_int_rmul (F.args_int_rmul_2 _ _) (int_rmul_tuple k t l its.toArray n dc sl)
        ⟨ho, rfl, ⟨_, ho, rfl⟩, call_meets F.slot_tuple_mul ⟨_, ho, rfl⟩ F.entry_tuple_mul (F.args_tuple_mul_2 _ _) (mul_none l its.toArray n dc sl k t k0 k1 k2) ⟨ho, ?_⟩⟩)
    exact newT_ep (its := []) I .nil (Nat.zero_le _) q
theorem opMul : Op2 Xf K (binaryOp .Mult) .s gMul := by
  refine ⟨_, fun i => OpR.or op_mul (OpR.or op_repR (OpR.or (kkR (fun X => op_repN) i) (kkR (fun X => op_mulE) i))), fun {m G H σ e A x y dx dy d Q} st hx hy ee k => ?_⟩
  unfold gMul at ee
  split at ee
  · obtain ⟨hz, rfl⟩ := ite_some ee
    obtain rfl := dq_int hx
    obtain rfl := dq_int hy
    refine .inl ⟨_, _, rfl, rfl, ?_, ans_s st (.int _) k⟩
    unfold mulOk at hz
    rcases (Bool.or_eq_true _ _).mp hz with h | h
    · have := of_decide_eq_true h; exact .inl (by omega)
    · have := of_decide_eq_true h; exact .inr (by omega)
  · exact .inr (.inl (d2_repL st hx hy ee (kfrz rfl k)))
  · rename_i kk
    obtain ⟨hz, rfl⟩ := ite_some ee
    obtain ⟨a, xs, rfl, r1, z1, q1⟩ := dq_tup hx
    obtain rfl := dq_int hy
    have l1 := q1.1
    have hz2 : (List.replicate kk.toNat xs).flatten.length ≤ sizeLine := by
      rw [PyProof.Rows.lm_len_rep_flat, l1]
      have h1 : kk.toNat ≤ 1000 := Int.toNat_le.mpr hz.2.1
      exact Nat.le_trans (Nat.mul_le_mul h1 hz.2.2) (by decide)
    have e0 : xs = [] → ∀ ds' : List PyData, ds'.length = xs.length → (List.replicate kk.toNat ds').flatten = ds' := fun h ds' hl => by
      subst h
      obtain rfl := List.eq_nil_of_length_eq_zero hl
      induction kk.toNat with
      | zero => rfl
      | succ n ih => rw [List.replicate_succ, List.flatten_cons, ih]; rfl
    by_cases h0 : xs = []
    · refine .inr (.inr (.inr ⟨a, _, xs, rfl, rfl, same_seqT st.sub r1, hz.1, hz.2.1, .inl ⟨.inl h0, ?_⟩⟩))
      rw [e0 h0 _ l1.symm] at k
      exact ans_s st hx k
    · by_cases h1 : kk = 1
      · subst h1
        refine .inr (.inr (.inr ⟨a, _, xs, rfl, rfl, same_seqT st.sub r1, hz.1, hz.2.1, .inl ⟨.inr rfl, ?_⟩⟩))
        rw [show (1 : Int).toNat = 1 from rfl, List.replicate_one, List.flatten_singleton] at k
        exact ans_s st hx k
      · by_cases h2 : kk ≤ 0
        · refine .inr (.inr (.inr ⟨a, _, xs, rfl, rfl, same_seqT st.sub r1, hz.1, hz.2.1, .inr ⟨h0, h2, ?_⟩⟩))
          rw [Int.toNat_of_nonpos h2, List.replicate_zero, List.flatten_nil] at k
          exact ans_tup st DqA.nil (Nat.zero_le _) k
        · exact .inr (.inr (.inl ⟨a, _, xs, rfl, rfl, same_seqT st.sub r1, h0, by omega, hz.2.1, by omega, ans_tup st (q1.flat _) hz2 k⟩))
  · cases ee
theorem opFdiv : Op2 Xf K (binaryOp .FloorDiv) .s gFdiv := ⟨_, fun i => op_fdivW, fun {m G H σ e A x y dx dy d Q} st hx hy ee k => by
  unfold gFdiv at ee
  split at ee
  · obtain ⟨hz, rfl⟩ := ite_some ee
    obtain rfl := dq_int hx
    obtain rfl := dq_int hy
    exact ⟨_, _, rfl, rfl, hz, ans_s st (.int _) k⟩
  · cases ee⟩
theorem opMod : Op2 Xf K (binaryOp .Mod) .s gMod := ⟨_, fun i => op_mod, fun {m G H σ e A x y dx dy d Q} st hx hy ee k => by
  unfold gMod at ee
  split at ee
  · obtain ⟨hz, rfl⟩ := ite_some ee
    obtain rfl := dq_int hx
    obtain rfl := dq_int hy
    exact ⟨_, _, rfl, rfl, hz, ans_s st (.int _) k⟩
  · cases ee⟩
theorem opPow : Op2 Xf K (binaryOp .Pow) .s gPow := ⟨_, fun i => op_pow, fun {m G H σ e A x y dx dy d Q} st hx hy ee k => by
  unfold gPow at ee
  split at ee
  · obtain ⟨hz, rfl⟩ := ite_some ee
    obtain rfl := dq_int hx
    obtain rfl := dq_int hy
    exact ⟨_, _, rfl, rfl, hz, ans_s st (.int _) k⟩
  · cases ee⟩
end
def gIx : PyData → PyData → Option PyData
  | .list xs, .int i => atI xs i
  | .tuple xs, .int i => atI xs i
  | .str z, .int i => (atI z.cps.toList i).map fun c => .str ⟨#[c]⟩
  | _, _ => none
def cutD (ds : List PyData) (lo hi : Option Int) : List PyData := (ds.drop (HT.sIx ds.length 0 lo)).take (HT.sIx ds.length ds.length hi - HT.sIx ds.length 0 lo)
def prt : PyData → Option (Option Int)
  | .int i => some (some i)
  | _ => none
def gSlL (x : PyData) (lo hi : Option Int) : Option PyData :=
  match x with
  | .list xs => some (.list (cutD xs lo hi))
  | _ => none
theorem atI_dq {K : PySem.W.Frag} {G : Hp} {xs : List V} {ds : List PyData} (q : DqA K G xs ds) {i : Int} {d : PyData} (h : atI ds i = some d) : ∃ v, atI xs i = some v ∧ Dq K G v d := by
  unfold atI at h ⊢
  obtain ⟨j, hj, hd⟩ := oBs h
  obtain ⟨v, hv, qv⟩ := q.get hd
  exact ⟨v, by rw [q.1, hj]; exact hv, qv⟩
theorem cut_dq {K : PySem.W.Frag} {G : Hp} {xs : List V} {ds : List PyData} (q : DqA K G xs ds) (lo hi : Option Int) : DqA K G (cutV xs lo hi) (cutD ds lo hi) := by
  unfold cutV cutD
  rw [q.1]
  have hdrop : ∀ k : Nat, DqA K G (xs.drop k) (ds.drop k) := fun k => ⟨by simp [q.1], fun i v d a b => q.2 (k + i) v d (by simpa using a) (by simpa using b)⟩
  have htake : ∀ (k : Nat) (xs : List V) (ds : List PyData), DqA K G xs ds → DqA K G (xs.take k) (ds.take k) := fun k xs ds q => ⟨by simp [q.1], fun i v d a b => by
    rw [List.getElem?_take] at a b
    split at a
    · rename_i hi; rw [if_pos hi] at b; exact q.2 i v d a b
    · cases a⟩
  exact htake _ _ _ (hdrop _)
abbrev Of := En → Option (Option Int × En)
def oNone : Of := fun e => some (none, e)
def oSome (f : Ef) : Of := fun e => (f e).bind fun p => (prt p.1).bind fun i => some (i, p.2)
def DO (K : PySem.W.Frag) (m : List Ty) (t : TO) (f : Of) (m' : List Ty) : Prop :=
  ∀ {G H : Hp} {σ : St} {e : En} {A : List Addr} {o : Option Int} {e' : En} {Q : Option Int → Hp → Prop}, Stt K m G H σ e A → f e = some (o, e') →
    (∀ (G' H' : Hp) (A' : List Addr), Step A G H A' G' H' → Stt K m' G' H' σ e' A' → Q o H') → t σ H Q
structure PP {ι : Type} (Xf : ι → Cx) (K : PySem.W.Frag) (m : List Ty) (e : Option Expr) (f : Of) (m' : List Ty) : Prop where
  ex : ∃ t : TO, (∀ i, PO (Xf i) e t) ∧ DO K m t f m'
def eSl (gg : PyData → Option Int → Option Int → Option PyData) (a : Ef) (l u : Of) : Ef := fun e => (a e).bind fun p => (l p.2).bind fun q => (u q.2).bind fun r => (gg p.1 q.1 r.1).bind fun d => some (d, r.2)
section
variable {ι : Type} {Xf : ι → Cx} {P : Program} {w : World} {K : PySem.W.Frag} {mg : Str → Option Value} {base : Heap} {n : Nat} [F : Fam Xf P w K mg base n]
variable {m m1 m2 m3 : List Ty} {pos p p2 : Pos} {a b c : Expr} {f g h : Ef}
include F
theorem kkIx {r : PySem.W.Frag → R2} (h : ∀ X : Cx, IxR X (r X.K)) (i : ι) : IxR (Xf i) (r K) := by
  have := h (Xf i)
  rw [F.kk i] at this
  exact this
theorem ixAny : Ix2 Xf K .s gIx := by
  refine ⟨_, fun i => IxR.or (kkIx (fun X => ix_list) i) (IxR.or (kkIx (fun X => ix_tup) i) ix_str), fun {m G H σ e A x y dx dy d Q} st hx hy ee k => ?_⟩
  unfold gIx at ee
  split at ee
  · obtain ⟨a, xs, rfl, r1, z1, q1⟩ := dq_lst hx
    obtain rfl := dq_int hy
    obtain ⟨v, hv, qv⟩ := atI_dq q1 ee
    exact .inl ⟨_, _, _, v, rfl, rfl, .inl (same_rd st.sub r1), hv, ans_s st qv k⟩
  · obtain ⟨a, xs, rfl, r1, z1, q1⟩ := dq_tup hx
    obtain rfl := dq_int hy
    obtain ⟨v, hv, qv⟩ := atI_dq q1 ee
    exact .inr (.inl ⟨_, _, _, v, rfl, rfl, same_seqT st.sub r1, hv, ans_s st qv k⟩)
  · obtain ⟨rfl, z1⟩ := dq_str hx
    obtain rfl := dq_int hy
    obtain ⟨cc, hc, rfl⟩ := Option.map_eq_some_iff.mp ee
    exact .inr (.inr ⟨_, _, cc, rfl, rfl, z1, hc, ans_s st (.str _ (by show 1 ≤ sizeLine; decide)) k⟩)
  · cases ee
theorem kkSl {r : PySem.W.Frag → V → Option Int → Option Int → Hp → VK → Prop} (h : ∀ X : Cx, SlR X (r X.K)) (i : ι) : SlR (Xf i) (r K) := by
  have := h (Xf i)
  rw [F.kk i] at this
  exact this
end
end DL
namespace DL
open PySem L2 PySem.Spec
def gTruth : PyData → Option Bool
  | .none => some false
  | .bool b => some b
  | .int i => some (i != 0)
  | .str y => some ((y.length : Int) != 0)
  | .list xs => some (!xs.isEmpty)
  | .tuple xs => some (!xs.isEmpty)
  | _ => none
def bOf (f : Ef) : Bf := fun e => (f e).bind fun p => (gTruth p.1).bind fun b => some (b, p.2)
def bAnd (f g : Bf) : Bf := fun e => (f e).bind fun p => if p.1 = true then g p.2 else some (false, p.2)
def bOr (f g : Bf) : Bf := fun e => (f e).bind fun p => if p.1 = true then some (true, p.2) else g p.2
def bNot (f : Bf) : Bf := fun e => (f e).bind fun p => some (!p.1, p.2)
def eAnd (f g : Ef) : Ef := fun e => (f e).bind fun p => match p.1 with
  | .bool true => g p.2
  | .bool false => some (.bool false, p.2)
  | _ => none
def eOr (f g : Ef) : Ef := fun e => (f e).bind fun p => match p.1 with
  | .bool true => some (.bool true, p.2)
  | .bool false => g p.2
  | _ => none
def eIf (c : Bf) (f g : Ef) : Ef := fun e => (c e).bind fun p => if p.1 = true then f p.2 else g p.2
def eChain (g1 g2 : PyData → PyData → Option PyData) (a b c : Ef) : Ef := fun e => (a e).bind fun p => (b p.2).bind fun q => (g1 p.1 q.1).bind fun r => match r with
  | .bool true => (c q.2).bind fun t => (g2 q.1 t.1).bind fun z => some (z, t.2)
  | .bool false => some (.bool false, q.2)
  | _ => none
section
variable {ι : Type} {Xf : ι → Cx} {P : Program} {w : World} {K : PySem.W.Frag} {mg : Str → Option Value} {base : Heap} {n : Nat} [F : Fam Xf P w K mg base n]
variable {m m1 m2 m3 : List Ty} {pos p p2 : Pos} {a b c : Expr} {f g h : Ef} {fb gb : Bf} {ty : Ty} {rest : List Expr}
theorem truV_of {G H : Hp} {v : V} {d : PyData} {b : Bool} (q : Dq K G v d) (sub : Same G H) (h : gTruth d = some b) : TruV K v H b := by
  cases q with
  | non => cases h; rfl
  | bl => cases h; rfl
  | int => cases h; rfl
  | str x hx => cases h; exact ⟨hx, rfl⟩
  | @lst a xs ds hs hl hz _ =>
    cases h
    refine .inl ⟨xs, .inl (same_rd sub hs), ?_⟩
    cases xs <;> cases ds <;> simp_all
  | @tup a xs ds hs hl hz _ =>
    cases h
    refine .inr (.inl ⟨xs, same_seqT sub hs.sq, ?_⟩)
    cases xs <;> cases ds <;> simp_all
  | dic => cases h
  | dv => cases h
  | ob => cases h
include F in
theorem pb_of (ha : PD Xf K m a .s f m1) (he : ∀ i whole, isTrue a (Xf i).env whole = (do let v ← whole; standAt a.pos; holding [v] (truthy v)) := by intro _ _; rfl) : PB Xf K m a (bOf f) m1 := by
  obtain ⟨ta, pa, da⟩ := ha.ex
  refine ⟨fun σ H Q => ta σ H fun x H' => ∃ k, TruV K x H' k ∧ Q k H', fun i => ?_, fun {G H σ e A b e' Q} st hf k => ?_⟩
  · have := pt_truth (X := Xf i) (pa i) (he i)
    rw [F.kk i] at this
    exact this
  · unfold bOf at hf
    obtain ⟨⟨d1, e1⟩, hf1, hf⟩ := oBs hf
    obtain ⟨b1, hf2, hf⟩ := oBs hf
    cases hf
    refine da st hf1 fun G1 H1 v1 A1 B1 s1 st1 o1 nd1 => ?_
    cases o1 with
    | s q1 => exact ⟨_, truV_of q1 st1.sub hf2, k _ _ _ s1 st1⟩
theorem DT.and {t u : TT} (ha : DT K m t fb m1) (hb : DT K m1 u gb m1) : DT K m (tAnd t u) (bAnd fb gb) m1 := by
  intro G H σ e A b e' Q st hf k
  unfold bAnd at hf
  obtain ⟨⟨b1, e1⟩, hf1, hf⟩ := oBs hf
  refine ha st hf1 fun G1 H1 A1 s1 st1 => ?_
  cases b1 with
  | true => rw [if_pos rfl] at hf ⊢; exact hb st1 hf fun G2 H2 A2 s2 st2 => k _ _ _ (s1.seq0 s2) st2
  | false => rw [if_neg (by simp)] at hf ⊢; cases hf; exact k _ _ _ s1 st1
theorem DT.or {t u : TT} (ha : DT K m t fb m1) (hb : DT K m1 u gb m1) : DT K m (tOr t u) (bOr fb gb) m1 := by
  intro G H σ e A b e' Q st hf k
  unfold bOr at hf
  obtain ⟨⟨b1, e1⟩, hf1, hf⟩ := oBs hf
  refine ha st hf1 fun G1 H1 A1 s1 st1 => ?_
  cases b1 with
  | true => rw [if_pos rfl] at hf ⊢; cases hf; exact k _ _ _ s1 st1
  | false => rw [if_neg (by simp)] at hf ⊢; exact hb st1 hf fun G2 H2 A2 s2 st2 => k _ _ _ (s1.seq0 s2) st2
theorem pbw_and1 (ha : PB Xf K m a fb m1) : PBw Xf K m (.BoolOp .And [a] pos) fb m1 := by
  obtain ⟨ta, pa, da⟩ := ha.ex
  exact ⟨ta, fun i => pw_and1 (pa i), da⟩
theorem pbw_or1 (ha : PB Xf K m a fb m1) : PBw Xf K m (.BoolOp .Or [a] pos) fb m1 := by
  obtain ⟨ta, pa, da⟩ := ha.ex
  exact ⟨ta, fun i => pw_or1 (pa i), da⟩
theorem pbw_and (ha : PB Xf K m a fb m1) (hb : PBw Xf K m1 (.BoolOp .And (b :: rest) pos) gb m1) : PBw Xf K m (.BoolOp .And (a :: b :: rest) pos) (bAnd fb gb) m1 := by
  obtain ⟨ta, pa, da⟩ := ha.ex
  obtain ⟨tb, pb, db⟩ := hb.ex
  exact ⟨_, fun i => pw_and (pa i) (pb i), DT.and da db⟩
theorem pbw_or (ha : PB Xf K m a fb m1) (hb : PBw Xf K m1 (.BoolOp .Or (b :: rest) pos) gb m1) : PBw Xf K m (.BoolOp .Or (a :: b :: rest) pos) (bOr fb gb) m1 := by
  obtain ⟨ta, pa, da⟩ := ha.ex
  obtain ⟨tb, pb, db⟩ := hb.ex
  exact ⟨_, fun i => pw_or (pa i) (pb i), DT.or da db⟩
theorem pb_w (ha : PBw Xf K m a fb m1) : PB Xf K m a fb m1 := by
  obtain ⟨ta, pa, da⟩ := ha.ex
  exact ⟨ta, fun i => (pa i).pt, da⟩
theorem pb_not (ha : PB Xf K m a fb m1) : PB Xf K m (.UnaryOp .Not a pos) (bNot fb) m1 := by
  obtain ⟨ta, pa, da⟩ := ha.ex
  refine ⟨_, fun i => pt_not (pa i), fun {G H σ e A b e' Q} st hf k => ?_⟩
  unfold bNot at hf
  obtain ⟨⟨b1, e1⟩, hf1, hf⟩ := oBs hf
  cases hf
  exact da st hf1 fun G1 H1 A1 s1 st1 => k _ _ _ s1 st1
theorem pd_and1 (ha : PD Xf K m a .s f m1) : PD Xf K m (.BoolOp .And [a] pos) .s f m1 := by
  obtain ⟨ta, pa, da⟩ := ha.ex
  exact ⟨ta, fun i => pe_one (pa i), da⟩
theorem pd_or1 (ha : PD Xf K m a .s f m1) : PD Xf K m (.BoolOp .Or [a] pos) .s f m1 := by
  obtain ⟨ta, pa, da⟩ := ha.ex
  exact ⟨ta, fun i => pe_one (pa i), da⟩
theorem pd_and (ha : PD Xf K m a .s f m1) (hb : PD Xf K m1 (.BoolOp .And (b :: rest) pos) .s g m1) : PD Xf K m (.BoolOp .And (a :: b :: rest) pos) .s (eAnd f g) m1 := by
  obtain ⟨ta, pa, da⟩ := ha.ex
  obtain ⟨tb, pb, db⟩ := hb.ex
  refine ⟨_, fun i => pe_and (pa i) (pb i), fun {G H σ e A d e' Q} st hf k => ?_⟩
  unfold eAnd at hf
  obtain ⟨⟨d1, e1⟩, hf1, hf⟩ := oBs hf
  refine da st hf1 fun G1 H1 v1 A1 B1 s1 st1 o1 nd1 => ?_
  cases o1 with
  | s q1 =>
    cases q1 with
    | bl b1 =>
      cases b1 with
      | true => exact ⟨true, rfl, db st1 hf fun G2 H2 v2 A2 B2 s2 st2 o2 nd2 => k _ _ _ _ _ (s1.seq0 s2) st2 o2 nd2⟩
      | false => cases hf; exact ⟨false, rfl, ans_s st1 (.bl false) fun G2 H2 v2 A2 B2 s2 st2 o2 nd2 => k _ _ _ _ _ (s1.seq0 s2) st2 o2 nd2⟩
    | _ => cases hf
theorem pd_or (ha : PD Xf K m a .s f m1) (hb : PD Xf K m1 (.BoolOp .Or (b :: rest) pos) .s g m1) : PD Xf K m (.BoolOp .Or (a :: b :: rest) pos) .s (eOr f g) m1 := by
  obtain ⟨ta, pa, da⟩ := ha.ex
  obtain ⟨tb, pb, db⟩ := hb.ex
  refine ⟨_, fun i => pe_or (pa i) (pb i), fun {G H σ e A d e' Q} st hf k => ?_⟩
  unfold eOr at hf
  obtain ⟨⟨d1, e1⟩, hf1, hf⟩ := oBs hf
  refine da st hf1 fun G1 H1 v1 A1 B1 s1 st1 o1 nd1 => ?_
  cases o1 with
  | s q1 =>
    cases q1 with
    | bl b1 =>
      cases b1 with
      | false => exact ⟨false, rfl, db st1 hf fun G2 H2 v2 A2 B2 s2 st2 o2 nd2 => k _ _ _ _ _ (s1.seq0 s2) st2 o2 nd2⟩
      | true => cases hf; exact ⟨true, rfl, ans_s st1 (.bl true) fun G2 H2 v2 A2 B2 s2 st2 o2 nd2 => k _ _ _ _ _ (s1.seq0 s2) st2 o2 nd2⟩
    | _ => cases hf
theorem pd_ifexp (hc : PB Xf K m c fb m1) (ha : PD Xf K m1 a ty f m2) (hb : PD Xf K m1 b ty g m2) : PD Xf K m (.IfExp c a b pos) ty (eIf fb f g) m2 := by
  obtain ⟨tc, pc, dc⟩ := hc.ex
  obtain ⟨ta, pa, da⟩ := ha.ex
  obtain ⟨tb, pb, db⟩ := hb.ex
  refine ⟨_, fun i => pe_ifExp (pc i) (pa i) (pb i), fun {G H σ e A d e' Q} st hf k => ?_⟩
  unfold eIf at hf
  obtain ⟨⟨b1, e1⟩, hf1, hf⟩ := oBs hf
  refine dc st hf1 fun G1 H1 A1 s1 st1 => ?_
  cases b1 with
  | true => rw [if_pos rfl] at hf ⊢; exact da st1 hf fun G2 H2 v2 A2 B2 s2 st2 o2 nd2 => k _ _ _ _ _ (s1.seq0 s2) st2 o2 nd2
  | false => rw [if_neg (by simp)] at hf ⊢; exact db st1 hf fun G2 H2 v2 A2 B2 s2 st2 o2 nd2 => k _ _ _ _ _ (s1.seq0 s2) st2 o2 nd2
theorem DE.chain {r r' : R2} {ta tb tc : TE} {g1 g2 : PyData → PyData → Option PyData} (ha : DE K m ta .s f m1) (hb : DE K m1 tb .s g m2) (hc : DE K m2 tc .s h m2) (hr : D2 K r .s g1) (hr' : D2 K r' .s g2) : DE K m (tChain r r' ta tb tc) .s (eChain g1 g2 f g h) m2 := by
  intro G H σ e A d e' Q st hf k
  unfold eChain at hf
  obtain ⟨⟨d1, e1⟩, hf1, hf⟩ := oBs hf
  obtain ⟨⟨d2, e2⟩, hf2, hf⟩ := oBs hf
  obtain ⟨d3, hf3, hf⟩ := oBs hf
  refine ha st hf1 fun G1 H1 v1 A1 B1 s1 st1 o1 nd1 => ?_
  cases o1 with
  | s q1 =>
    refine hb st1 hf2 fun G2 H2 v2 A2 B2 s2 st2 o2 nd2 => ?_
    cases o2 with
    | s q2 =>
      refine hr st2 (q1.mono s2.sg) q2 hf3 fun G3 H3 v3 A3 B3 s3 st3 o3 nd3 => ?_
      cases o3 with
      | s q3 =>
        have s03 := (s1.seq0 s2).seq0 s3
        cases q3 with
        | bl b3 =>
          refine ⟨b3, rfl, ?_⟩
          cases b3 with
          | true =>
            rw [if_pos rfl]
            obtain ⟨⟨d4, e4⟩, hf4, hf⟩ := oBs hf
            obtain ⟨d5, hf5, hf⟩ := oBs hf
            cases hf
            refine hc st3 hf4 fun G4 H4 v4 A4 B4 s4 st4 o4 nd4 => ?_
            cases o4 with
            | s q4 => exact hr' st4 (q2.mono (s3.sg.trans s4.sg)) q4 hf5 fun G5 H5 v5 A5 B5 s5 st5 o5 nd5 => k _ _ _ _ _ ((s03.seq0 s4).seq0 s5) st5 o5 nd5
          | false =>
            rw [if_neg (by simp)]
            cases hf
            exact ans_s st3 (.bl false) fun G5 H5 v5 A5 B5 s5 st5 o5 nd5 => k _ _ _ _ _ (s03.seq0 s5) st5 o5 nd5
        | _ => cases hf
theorem DE.test {te : TE} (ha : DE K m te .s f m1) : DT K m (tTest te) (fun e => (f e).bind fun p => match p.1 with | .bool b => some (b, p.2) | _ => none) m1 := by
  intro G H σ e A b e' Q st hf k
  obtain ⟨⟨d1, e1⟩, hf1, hf⟩ := oBs hf
  refine ha st hf1 fun G1 H1 v1 A1 B1 s1 st1 o1 nd1 => ?_
  cases o1 with
  | s q1 =>
    cases q1 with
    | bl b1 => cases hf; exact ⟨_, rfl, k _ _ _ s1 st1⟩
    | _ => cases hf
end
def bT (f : Ef) : Bf := fun e => (f e).bind fun p => match p.1 with | .bool b => some (b, p.2) | _ => none
section
variable {ι : Type} {Xf : ι → Cx} {P : Program} {w : World} {K : PySem.W.Frag} {mg : Str → Option Value} {base : Heap} {n : Nat} [F : Fam Xf P w K mg base n]
variable {m m1 m2 m3 : List Ty} {pos p p2 : Pos} {a b c : Expr} {f g h : Ef} {fb gb : Bf} {ty : Ty} {rest : List Expr}
theorem pb_cmp {op : CmpOp} {gg : PyData → PyData → Option PyData} (ho : Op2 Xf K (compareOp op) .s gg) (ha : PD Xf K m a .s f m1) (hb : PD Xf K m1 b .s g m2) (hm : behindInMarks op b = false := by first | exact nomark _ | rfl) : PB Xf K m (.Compare a [op] [b] pos) (bT (e2 gg f g)) m2 := by
  obtain ⟨r, hr, dr⟩ := ho.ex
  obtain ⟨ta, pa, da⟩ := ha.ex
  obtain ⟨tb, pb, db⟩ := hb.ex
  exact ⟨_, fun i => pt_cmpR (hr i) (pa i) (pb i) hm, DE.test (DE.bin da db dr)⟩
theorem pb_chain {op op' : CmpOp} {g1 g2 : PyData → PyData → Option PyData} (ho : Op2 Xf K (compareOp op) .s g1) (ho' : Op2 Xf K (compareOp op') .s g2) (ha : PD Xf K m a .s f m1) (hb : PD Xf K m1 b .s g m2) (hc : PD Xf K m2 c .s h m2)
    (hm : lastMarks [op, op'] [b, c] = false := by with_unfolding_all rfl) : PB Xf K m (.Compare a [op, op'] [b, c] pos) (bT (eChain g1 g2 f g h)) m2 := by
  obtain ⟨r, hr, dr⟩ := ho.ex
  obtain ⟨r', hr', dr'⟩ := ho'.ex
  obtain ⟨ta, pa, da⟩ := ha.ex
  obtain ⟨tb, pb, db⟩ := hb.ex
  obtain ⟨tc, pc, dc⟩ := hc.ex
  exact ⟨_, fun i => pt_chain (hr i) (hr' i) (pa i) (pb i) (pc i) hm, DE.test (DE.chain da db dc dr dr')⟩
end
def LendOk (σ : St) (vs : List V) (L : List (Option Nat)) : Prop := ∀ k j : Nat, L[k]? = some (some j) → ∃ v, vs[k]? = some v ∧ σ[j]? = some (some v)
def DAL (K : PySem.W.Frag) (m : List Ty) (ta : TA) (tys : List Ty) (L : List (Option Nat)) (f : Lf) (m' : List Ty) : Prop :=
  ∀ {G H : Hp} {σ : St} {e : En} {A : List Addr} {ds : List PyData} {e' : En} {Q : List V → Hp → Prop}, Stt K m G H σ e A → f e = some (ds, e') →
    (∀ (G' H' : Hp) (vs : List V) (Av A' : List Addr), Step A G H (Av ++ A') G' H' → Stt K m' G' H' σ e' A' → OwnA K G' H' tys ds (vs.map some) Av → (Av ++ A').Nodup → LendOk σ vs L → Q vs H') → ta σ H Q
structure PAL {ι : Type} (Xf : ι → Cx) (K : PySem.W.Frag) (m : List Ty) (es : List Expr) (tys : List Ty) (L : List (Option Nat)) (f : Lf) (m' : List Ty) : Prop where
  ex : ∃ ta : TA, (∀ i, PA (Xf i) es ta) ∧ DAL K m ta tys L f m'
def lNil : Lf := fun e => some ([], e)
def lCons (f : Ef) (r : Lf) : Lf := fun e => (f e).bind fun p => (r p.2).bind fun q => some (p.1 :: q.1, q.2)
def eLend : Ef := fun e => some (.none, e)
section
variable {ι : Type} {Xf : ι → Cx} {P : Program} {w : World} {K : PySem.W.Frag} {mg : Str → Option Value} {base : Heap} {n : Nat} [F : Fam Xf P w K mg base n]
variable {m m1 m2 m3 : List Ty} {pos p p2 : Pos} {a b c : Expr} {es : List Expr} {f g h : Ef} {fr : Lf} {ty : Ty} {tys : List Ty} {L : List (Option Nat)}
theorem pl_nil : PAL Xf K m [] [] [] lNil m := ⟨_, fun i => pa_nil, fun {G H σ e A ds e' Q} st hf k => by
  cases hf
  exact k G H [] [] A Step.refl st .nil st.nd fun k j h => by simp at h⟩
theorem DAL.cons {te : TE} {ta : TA} (ha : DE K m te ty f m1) (hr : DAL K m1 ta tys L fr m2) : DAL K m (tCons te ta) (ty :: tys) (none :: L) (lCons f fr) m2 := by
  intro G H σ e A ds e' Q st hf k
  unfold lCons at hf
  obtain ⟨⟨d1, e1⟩, hf1, hf⟩ := oBs hf
  obtain ⟨⟨ds1, e2⟩, hf2, hf⟩ := oBs hf
  cases hf
  refine ha st hf1 fun G1 H1 v1 A1 B1 s1 st1 o1 nd1 => hr st1 hf2 fun G2 H2 vs A2 B2 s2 st2 o2 nd2 hl => ?_
  obtain ⟨s3, nd3, hg, hh⟩ := s1.seq (own_at o1) nd1 s2 nd2
  rw [← List.append_assoc] at s3 nd3
  refine k G2 H2 (v1 :: vs) (A1 ++ A2) B2 s3 st2 (.cons (own_fr o1 s2.sg hg hh) o2) nd3 fun kk j hj => ?_
  cases kk with
  | zero => simp at hj
  | succ kk => exact hl kk j (by simpa using hj)
theorem pl_cons (ha : PD Xf K m a ty f m1) (hr : PAL Xf K m1 es tys L fr m2) (hs : ∀ i, starEach (a :: es) (Xf i).env = (false, eval a (Xf i).env) :: starEach es (Xf i).env := by intro _; rfl) : PAL Xf K m (a :: es) (ty :: tys) (none :: L) (lCons f fr) m2 := by
  obtain ⟨ta, pa, da⟩ := ha.ex
  obtain ⟨tr, pr, dr⟩ := hr.ex
  exact ⟨_, fun i => pa_cons (pa i) (pr i) (hs i), DAL.cons da dr⟩
theorem pl_lend (j : Nat) {x : Str} {t : Ty} (hr : PAL Xf K m es tys L fr m2) (hm : m[j]? = some t := by rfl) (hu : t ≠ .u := by exact fun z => nomatch z) (hN : ∀ i, (Xf i).N[j]? = some x := by intro _; rfl)
    (hv : ∀ i, Vis (Xf i).env.scope x := by first | (intro _; exact Or.inl rfl) | (intro _; exact Or.inr (Or.inl rfl)) | (intro _; exact Or.inr (Or.inr rfl))) (hd : (x == ("__debug__" : Str)) = false := by decide)
    (hcd : (x == ("__classdict__" : Str)) = false := by decide) (hs : ∀ i, starEach (.Name x pos :: es) (Xf i).env = (false, eval (.Name x pos) (Xf i).env) :: starEach es (Xf i).env := by intro _; rfl) :
    PAL Xf K m (.Name x pos :: es) (.u :: tys) (some j :: L) (lCons eLend fr) m2 := by
  obtain ⟨tr, pr, dr⟩ := hr.ex
  refine ⟨_, fun i => pa_cons (pe_var (i := j) (hN i) (hv i) hd hcd) (pr i) (hs i), fun {G H σ e A ds e' Q} st hf k => ?_⟩
  unfold lCons eLend at hf
  obtain ⟨⟨d1, e1⟩, hf1, hf⟩ := oBs hf
  cases hf1
  obtain ⟨⟨ds1, e2⟩, hf2, hf⟩ := oBs hf
  cases hf
  obtain ⟨d', v, Aj, A0, h1, h2, h3, h4, hp⟩ := ownA_take st.own hm
  have hv : ∃ x, v = some x := by
    cases h3 with
    | u => exact absurd rfl hu
    | s => exact ⟨_, rfl⟩
    | e => exact ⟨_, rfl⟩
    | k => exact ⟨_, rfl⟩
    | a => exact ⟨_, rfl⟩
    | q => exact ⟨_, rfl⟩
    | d => exact ⟨_, rfl⟩
    | t => exact ⟨_, rfl⟩
    | o => exact ⟨_, rfl⟩
    | f => exact ⟨_, rfl⟩
    | x => exact ⟨_, rfl⟩
    | l => exact ⟨_, rfl⟩
    | r => exact ⟨_, rfl⟩
  obtain ⟨x, rfl⟩ := hv
  refine ⟨x, h2, dr st hf2 fun G2 H2 vs A2 B2 s2 st2 o2 nd2 hl => k G2 H2 (x :: vs) A2 B2 s2 st2 (OwnA.cons (A := []) (.u _ _) o2) nd2 fun kk j' hj => ?_⟩
  cases kk with
  | zero =>
    simp at hj
    subst hj
    exact ⟨x, rfl, h2⟩
  | succ kk => exact hl kk j' (by simpa using hj)
def eTup (r : Lf) : Ef := fun e => (r e).bind fun p => some (.tuple p.1, p.2)
def eLst (r : Lf) : Ef := fun e => (r e).bind fun p => some (.list p.1, p.2)
theorem pd_tup {k : Nat} (hr : PAL Xf K m es (List.replicate k .s) L fr m1) (hk : es.length = k := by rfl) (hz : k ≤ sizeLine := by decide) {x1} : PD Xf K m (.Tuple es x1 pos) .s (eTup fr) m1 := by
  obtain ⟨tr, pr, dr⟩ := hr.ex
  refine ⟨_, fun i => pe_tupN (pr i), fun {G H σ e A d e' Q} st hf k' => ?_⟩
  unfold eTup at hf
  obtain ⟨⟨ds1, e1⟩, hf1, hf⟩ := oBs hf
  cases hf
  refine dr st hf1 fun G1 H1 vs A1 B1 s1 st1 o1 nd1 _ => ?_
  obtain ⟨e0, q⟩ := of_ownA o1
  subst e0
  have hl := (ownA_len o1).1
  rw [List.length_replicate] at hl
  have hz2 : vs.length ≤ sizeLine := by rw [q.1, ← hl]; exact hz
  exact ⟨hz2, ans_tup st1 q hz2 fun G2 H2 v2 A2 B2 s2 st2 o2 nd2 => k' _ _ _ _ _ (s1.seq0 s2) st2 o2 nd2⟩
theorem DAL.lst {ta : TA} {tyR : Ty} {tys : List Ty} (dr : DAL K m ta tys L fr m1) (hz : tys.length ≤ sizeLine) (mk : ∀ {G H : Hp} {a : Addr} {vs : List V} {ds : List PyData} {A : List Addr}, G a = none → H a = some (.lst vs) → vs.length ≤ sizeLine → OwnA K G H tys ds (vs.map some) A → Own K G H tyR (.list ds) (some (.ref a)) (a :: A)) : DE K m (tLst ta) tyR (eLst fr) m1 := by
  intro G H σ e A d e' Q st hf k'
  unfold eLst at hf
  obtain ⟨⟨ds1, e1⟩, hf1, hf⟩ := oBs hf
  cases hf
  refine dr st hf1 fun G1 H1 vs A1 B1 s1 st1 o1 nd1 _ => ?_
  have hl := ownA_len o1
  have hz2 : vs.length ≤ sizeLine := by have := hl.2; rw [List.length_map] at this; omega
  refine ⟨hz2, fun p hp => ?_⟩
  obtain ⟨s2, st2, nd2, gp⟩ := new_o (o := .lst vs) (B := []) st1 hp
  have nv : ∀ a ∈ A1, a ≠ p := fun a ha z => by obtain ⟨_, o, e⟩ := ownA_at o1 a ha; rw [z, hp] at e; cases e
  have o1' : OwnA K G1 (upd H1 p (.lst vs)) tys ds1 (vs.map some) A1 := ownA_fr o1 (Same.refl _) (fun a ha => (ownA_at o1 a ha).1) fun a ha => upd_ne (nv a ha)
  have nd3 : (p :: (A1 ++ B1)).Nodup := List.nodup_cons.mpr ⟨fun h => (List.mem_append.mp h).elim (fun h => nv p h rfl) fun h => (List.nodup_cons.mp nd2).1 h, nd1⟩
  refine k' G1 (upd H1 p (.lst vs)) (.ref p) (p :: A1) B1 ?_ st2 (mk gp upd_same hz2 o1') nd3
  refine ⟨s1.sg, fun a o h ha => ?_, fun a ha => ?_, s1.gnew⟩
  · have h1 := s1.fr a o h ha
    rw [upd_ne (ne_of_none h1 hp)]; exact h1
  · rcases List.mem_cons.mp ha with rfl | ha
    · exact s1.back hp
    · exact s1.own a ha
theorem pd_lst {k : Nat} (t : Ty) (hr : PAL Xf K m es (List.replicate k t) L fr m1) (hz : k ≤ sizeLine := by decide) : PD Xf K m (.List es pos) (.l t) (eLst fr) m1 := by
  obtain ⟨tr, pr, dr⟩ := hr.ex
  refine ⟨_, fun i => pe_lst (pr i), DAL.lst dr (by rw [List.length_replicate]; exact hz) fun h1 h2 h3 o => .l h1 h2 h3 ?_⟩
  have hl := (ownA_len o).1
  rw [List.length_replicate] at hl
  rw [← hl]; exact o
theorem pd_rec (hr : PAL Xf K m es tys L fr m1) (hz : tys.length ≤ sizeLine := by decide) : PD Xf K m (.List es pos) (.r tys) (eLst fr) m1 := by
  obtain ⟨tr, pr, dr⟩ := hr.ex
  exact ⟨_, fun i => pe_lst (pr i), DAL.lst dr hz fun h1 h2 h3 o => .r h1 h2 h3 o⟩
end
end DL
namespace DL
open PySem L2 PySem.Spec
inductive LeT : Ty → Ty → Prop
  | rfl (t : Ty) : LeT t t
  | u (t : Ty) : LeT t .u
  | s (t : Ty) (h : nou t = true) : LeT t .s
  | kr (v2 : V) (t0 t1 t2 : Ty) : LeT (.r [t0, t1, .k v2 t2]) (.r [t0, t1, t2])
  | kd (v : V) (t : Ty) : LeT (.k v t) t
  | f (C : Addr) (ns : List Str) (ts : List Ty) (h : nouL ts = true) : LeT (.o C ns ts) (.f C ns)
theorem frz_allT {K : PySem.W.Frag} {G G' H : Hp} (e : Same G G') : ∀ {ts : List Ty} {ds : List PyData} {vs : List V} {A : List Addr}, OwnA K G H ts ds (vs.map some) A → (∀ a ∈ A, G' a = H a) → nouL ts = true → DqA K G' vs ds
  | [], ds, vs, A, o, hg, hn => by
    cases vs with
    | nil => cases o; exact DqA.nil
    | cons v vs => cases o
  | t :: ts, ds, vs, A, o, hg, hn => by
    cases vs with
    | nil => cases o
    | cons v vs =>
      have o : OwnA K G H (t :: ts) ds (some v :: vs.map some) A := o
      cases o with
      | @cons _ _ d ds' _ _ A1 B1 o1 o2 =>
        have hn : (nou t && nouL ts) = true := hn
        rw [Bool.and_eq_true] at hn
        obtain ⟨x, hx, q⟩ := own_frz o1 e (fun a ha => hg a (List.mem_append_left _ ha)) hn.1
        cases hx
        exact DqA.cons q (frz_allT e o2 (fun a ha => hg a (List.mem_append_right _ ha)) hn.2)
theorem own_of_k {K : PySem.W.Frag} {G H : Hp} {v : V} {t : Ty} {d : PyData} {x : Option V} {A : List Addr} (h : Own K G H (.k v t) d x A) : x = some v ∧ Own K G H t d x A := by
  cases h with
  | k h => exact ⟨rfl, h⟩
theorem ownA_unk3 {K : PySem.W.Frag} {G H : Hp} {v2 : V} {t0 t1 t2 : Ty} {ds : List PyData} {vs : List (Option V)} {A : List Addr} (h : OwnA K G H [t0, t1, .k v2 t2] ds vs A) : OwnA K G H [t0, t1, t2] ds vs A := by
  cases h with
  | cons h1 h =>
    cases h with
    | cons h2 h =>
      cases h with
      | cons h3 h =>
        cases h
        exact .cons h1 (.cons h2 (.cons (own_of_k h3).2 .nil))
theorem own_unk {K : PySem.W.Frag} {G H : Hp} {v2 : V} {t0 t1 t2 : Ty} {d : PyData} {v : Option V} {A : List Addr} (h : Own K G H (.r [t0, t1, .k v2 t2]) d v A) : Own K G H (.r [t0, t1, t2]) d v A := by
  cases h with
  | r ga ha hz o => exact .r ga ha hz (ownA_unk3 o)
inductive LeM : List Ty → List Ty → Prop
  | nil : LeM [] []
  | cons {t t' : Ty} {m m' : List Ty} : LeT t t' → LeM m m' → LeM (t :: m) (t' :: m')
theorem LeM.refl : ∀ m : List Ty, LeM m m
  | [] => .nil
  | t :: m => .cons (.rfl t) (LeM.refl m)
section
variable {K : PySem.W.Frag} {G H : Hp}
theorem ownA_le {m m' : List Ty} (l : LeM m m') : ∀ {e : En} {σ : St} {A : List Addr}, OwnA K G H m e σ A →
    ∃ Fz Dr A' : List Addr, A.Perm (Fz ++ (Dr ++ A')) ∧ ∀ G' : Hp, Same G G' → (∀ a ∈ Fz, G' a = H a) → (∀ a ∈ A', G' a = none) → OwnA K G' H m' e σ A' := by
  induction l with
  | nil => intro e σ A h; cases h; exact ⟨[], [], [], by simp, fun _ _ _ _ => .nil⟩
  | @cons t t' m m' lt lm ih =>
    intro e σ A h
    cases h with
    | @cons _ _ d ds v vs A1 A2 h1 h2 =>
      obtain ⟨Fz, Dr, A', p, k⟩ := ih h2
      cases lt with
      | rfl =>
        refine ⟨Fz, Dr, A1 ++ A', ?_, fun G' sg hf ha => .cons (own_fr h1 sg (fun a h => ha a (List.mem_append_left _ h)) fun _ _ => rfl) (k G' sg hf fun a h => ha a (List.mem_append_right _ h))⟩
        refine (List.Perm.append_left A1 p).trans (List.perm_iff_count.mpr fun z => ?_)
        simp only [List.count_append]; omega
      | kr v2 t0 t1 t2 =>
        refine ⟨Fz, Dr, A1 ++ A', ?_, fun G' sg hf ha => .cons (own_unk (own_fr h1 sg (fun a h => ha a (List.mem_append_left _ h)) fun _ _ => rfl)) (k G' sg hf fun a h => ha a (List.mem_append_right _ h))⟩
        refine (List.Perm.append_left A1 p).trans (List.perm_iff_count.mpr fun z => ?_)
        simp only [List.count_append]; omega
      | kd v2 t0 =>
        refine ⟨Fz, Dr, A1 ++ A', ?_, fun G' sg hf ha => .cons (own_fr (own_of_k h1).2 sg (fun a h => ha a (List.mem_append_left _ h)) fun _ _ => rfl) (k G' sg hf fun a h => ha a (List.mem_append_right _ h))⟩
        refine (List.Perm.append_left A1 p).trans (List.perm_iff_count.mpr fun z => ?_)
        simp only [List.count_append]; omega
      | u =>
        refine ⟨Fz, A1 ++ Dr, A', ?_, fun G' sg hf ha => OwnA.cons (A := []) (.u _ _) (k G' sg hf ha)⟩
        refine (List.Perm.append_left A1 p).trans (List.perm_iff_count.mpr fun z => ?_)
        simp only [List.count_append]; omega
      | f C ns ts hno =>
        refine ⟨A1 ++ Fz, Dr, A', ?_, fun G' sg hf ha => ?_⟩
        · rw [List.append_assoc]; exact List.Perm.append_left A1 p
        · cases h1 with
          | @o _ dx a _ _ fs ds Ai ga gd ha1 hdx hn oi =>
            have oi2 : OwnA K G H ts ds ((fs.map (·.2)).map some) Ai := by rw [List.map_map]; exact oi
            have q := frz_allT sg oi2 (fun b hb => hf b (List.mem_append_left _ (List.mem_cons_of_mem _ (List.mem_cons_of_mem _ hb)))) hno
            exact OwnA.cons (A := []) (.f (by rw [hf a (List.mem_append_left _ (List.mem_cons_self ..))]; exact ha1) hn q) (k G' sg (fun b h => hf b (List.mem_append_right _ h)) ha)
      | s _ hno =>
        refine ⟨A1 ++ Fz, Dr, A', ?_, fun G' sg hf ha => ?_⟩
        · rw [List.append_assoc]; exact List.Perm.append_left A1 p
        · obtain ⟨x, hx, q⟩ := own_frz h1 sg (fun a h => hf a (List.mem_append_left _ h)) hno
          subst hx
          exact OwnA.cons (A := []) (.s q) (k G' sg (fun a h => hf a (List.mem_append_right _ h)) ha)
theorem stt_le {m m' : List Ty} (l : LeM m m') {e : En} {σ : St} {A : List Addr} (st : Stt K m G H σ e A) : ∃ G' A', Step A G H A' G' H ∧ Stt K m' G' H σ e A' := by
  obtain ⟨Fz, Dr, A', p, k⟩ := ownA_le l st.own
  have nd := p.nodup_iff.mp st.nd
  have inA : ∀ a, a ∈ Fz → a ∈ A := fun a h => p.mem_iff.mpr (List.mem_append_left _ h)
  have inA' : ∀ a, a ∈ A' → a ∈ A := fun a h => p.mem_iff.mpr (List.mem_append_right _ (List.mem_append_right _ h))
  have sg : Same G (lay G H Fz) := fun b x hx => by
    by_cases q : b ∈ Fz
    · rw [(ownA_at st.own b (inA b q)).1] at hx; cases hx
    · rw [lay_out q]; exact hx
  have dis : ∀ a ∈ A', a ∉ Fz := fun a ha hb => (List.nodup_append.mp nd).2.2 a hb a (List.mem_append_right _ ha) rfl
  refine ⟨lay G H Fz, A', ⟨sg, fun a o h _ => h, fun a ha => .inl (inA' a ha), fun a h1 ⟨o, h2⟩ => ?_⟩, ⟨k _ sg (fun a ha => lay_in ha) fun a ha => ?_, (List.nodup_append.mp (List.nodup_append.mp nd).2.1).2.1, fun b x hx => ?_⟩⟩
  · by_cases q : a ∈ Fz
    · exact .inl (inA a q)
    · rw [lay_out q, h1] at h2; cases h2
  · rw [lay_out (dis a ha)]; exact (ownA_at st.own a (inA' a ha)).1
  · by_cases q : b ∈ Fz
    · rw [lay_in q] at hx; exact hx
    · rw [lay_out q] at hx; exact st.sub b x hx
end
abbrev DFn := List PyData → Option (PyData × List PyData)
def spD (K : PySem.W.Frag) (ptys : List Ty) (rty : Ty) (Fn : DFn) : Sp := fun vs H Q _ =>
  ∃ (ds : List PyData) (d : PyData) (fs : List PyData) (G : Hp) (A : List Addr), Fn ds = some (d, fs) ∧ OwnA K G H ptys ds (vs.map some) A ∧ A.Nodup ∧ Same G H ∧
    ∀ (G' H' : Hp) (v : V) (Av A' : List Addr), Step A G H (Av ++ A') G' H' → OwnA K G' H' ptys fs (vs.map some) A' → Own K G' H' rty d (some v) Av → (Av ++ A').Nodup → Same G' H' → Q v H'
structure FnG (P : Program) (w : World) (K : PySem.W.Frag) (mg : Str → Option Value) (base : Heap) (k : Nat) (f : Addr) (fd : FuncData) (ps : List Str) (sp : Sp) : Prop where
  len : ∀ vs H Q E, sp vs H Q E → vs.length = ps.length
  run : ∀ (A : Around) (outer : List Env) (s : Shared) (H : Hp) (args : Args) (us : List Value) (vs : List V) (Q : VK) (E : XK), Room k A → A.guards = some [] → Env0 P w K mg base A outer s H → BindsTo s fd args (ps.zip us) → Vals vs us → sp vs H Q E →
    codeAny (model P w) A (.call (.ref f) args) (CR CX0 outer P w H s Q E) s
structure CalG (P : Program) (w : World) (K : PySem.W.Frag) (mg : Str → Option Value) (base : Heap) (k : Nat) (x : Str) (ptys : List Ty) (rty : Ty) (Fn : DFn) : Prop where
  ex : ∃ (f : Addr) (fd : FuncData) (ps : List Str), FnG P w K mg base k f fd ps (spD K ptys rty Fn) ∧ mg x = some (.ref f) ∧ PySem.W.keepIn K (.ref f) = true ∧ Binds K fd ps []
class FamG {ι : Type} (Xf : ι → Cx) : Prop where
  gd : ∀ i, (Xf i).A.guards = some []
  calm : ∀ i, (Xf i).calm = true
  hd : ∀ i, (Xf i).A.handled = none
theorem rmOf {ι : Type} {Xf : ι → Cx} {P : Program} {w : World} {K : PySem.W.Frag} {mg : Str → Option Value} {base : Heap} {n : Nat} (F : Fam Xf P w K mg base n) (FG : FamG Xf) (i : ι) : Room n (Xf i).A := ⟨FG.hd i, (F.room i).dp, (F.room i).un⟩
theorem fnG_of {P : Program} {w : World} {K : PySem.W.Frag} {mg : Str → Option Value} {base : Heap} {x qual : Str} {st : Stmt} {f : Addr} {fd : FuncData} {N ps : List Str} {k : Nat} {sp : Sp} (F : L2.Fun K x qual st f fd) (S : FnScope N ps (defScope st)) (len : ∀ vs H Q E, sp vs H Q E → vs.length = ps.length)
    (hbody : ∀ (cdv : Value) (A : Around) (outer : List Env) (s : Shared) (H : Hp) (vs : List V) (Q : VK) (E : XK), Room k (A.deeper (PyProof.Rows.envOfC qual (defScope st) s.heap.objs.size f cdv)) → (A.deeper (PyProof.Rows.envOfC qual (defScope st) s.heap.objs.size f cdv)).guards = some [] → sp vs H Q E →
      ∃ t, PSs (cxOf CX0 P w K mg base N qual (defScope st) f cdv A outer s H E).nox (defBody st) t ∧ t { nx := fun _ H' => Q .non H', rt := Q } (start N vs) H) : FnG P w K mg base (k + 1) f fd ps sp := by
  obtain ⟨oc, od, kV, doc, pm, an, cdv, ct, osl, rfl, lk, hcd⟩ := F.ex
  refine ⟨len, fun A outer s H args us vs Q E room gd e0 bind rel wish => ?_⟩
  have KX : K.In s.heap := e0.mod.kin.keeps fun b o e => (e0.bs b o e).1
  obtain ⟨t, bt, bq⟩ := hbody cdv A outer s H vs Q E (room.deeper _) gd wish
  have kinds : ∀ y ∈ ps.zip us, (defScope st).names.lookup y.1 = some .local ∨ ((defScope st).names.lookup y.1 = some .cell ∧ ((cellsFrom (s.heap.objs.size + 1) (defScope st).names []).lookup y.1).isSome = true) := by
    rintro ⟨nm, val⟩ hy
    have hp := S.par nm (List.of_mem_zip hy).1
    exact hp.imp id fun c => ⟨c, PySem.W.cellsFrom_some _ _ _ (.inl c)⟩
  refine codeAny_call_function room.depth (KX _ _ lk) rfl S.co S.gen rfl (PySem.W.codeRec_of KX hcd) (bind _ _ _ _ ?_)
  refine wpAny_newFunctionEnv_cells S.kind kinds fun env he s1 ic => ?_
  subst he
  have lim := e0.mod.nolimit.keeps fun b o e => (e0.bs b o e).1
  refine ⟨Heap.NoLimit.keeps lim ic.toInCall.keep, codeAny_func ?_⟩
  have I0 := inv_start (CX := CX0) (E := E) S room.hd e0 (len _ _ _ _ wish) rel ic
  refine wpAny_mono (bt.nox.run [] s1 _ H _ I0 bq) ?_ fun e s' z => z
  intro fl s' z
  cases fl with
  | ret u => obtain ⟨v, σ', H', J, rv, q⟩ := z; exact ⟨v, H', J.os, J.bare, J.base, J.hok, rv, q⟩
  | next => obtain ⟨σ', H', J, q⟩ := z; exact ⟨V.non, H', J.os, J.bare, J.base, J.hok, rfl, q⟩
  | brk => obtain ⟨_, _, _, q⟩ := z; exact q.elim
  | cont => obtain ⟨_, _, _, q⟩ := z; exact q.elim
def eCall (Fn : DFn) (r : Lf) : Ef := fun e => (r e).bind fun p => (Fn p.1).bind fun q => some (q.1, p.2)
def eCallL (Fn : DFn) (k j : Nat) (r : Lf) : Ef := fun e => (r e).bind fun p => (Fn (p.1.set k (p.2.getD j .none))).bind fun q => some (q.1, p.2.set j (q.2.getD k .none))
section
variable {ι : Type} {Xf : ι → Cx} {P : Program} {w : World} {K : PySem.W.Frag} {mg : Str → Option Value} {base : Heap} {n : Nat} [F : Fam Xf P w K mg base n] [FG : FamG Xf]
variable {m m1 m2 m3 : List Ty} {pos p p2 : Pos} {a b c : Expr} {es : List Expr} {f g h : Ef} {fr : Lf} {ty : Ty} {tys : List Ty} {L : List (Option Nat)}
theorem run_fnG {X : Cx} {k : Nat} {fa : Addr} {fd : FuncData} {ps : List Str} {sp : Sp} {pins : List (Addr × Obj)} {σ : St} {H : Hp} {s : Shared} {Q : VK} {E : XK} {us : List Value} {vs : List V} (Fn : FnG X.prog X.w X.K X.mg X.base k fa fd ps sp) (hr : Room k X.A) (hg : X.A.guards = some []) (hb : Binds X.K fd ps [])
    (I : L2.Inv X pins σ H s) (r : Vals vs us) (h : sp vs H Q E) : wpAny (model X.prog X.w) X.A (call (.ref fa) us) (EP X pins σ Q) X.xe s := by
  have hl : (us ++ []).length = ps.length := by rw [List.append_nil, ← r.length]; exact Fn.len _ _ _ _ h
  have hb' := hb s us I.kIn hl
  rw [List.append_nil] at hb'
  refine wpAny_call (codeAny_mono (Fn.run X.A X.stack s H ⟨us, []⟩ us vs Q E hr hg I.env0 hb' r h) ?_)
  intro z s' hq
  match z, hq with
  | .ok (.ret u), hq => exact I.after hq
  | .error e, hq => exact False.elim hq
  | .ok .next, hq => exact False.elim hq
  | .ok .brk, hq => exact False.elim hq
  | .ok .cont, hq => exact False.elim hq
def tCallG (sp : Sp) (t : TA) : TE := fun σ H Q => t σ H fun vs H1 => sp vs H1 Q fun _ _ _ => False
include F FG in
theorem pe_callG {k : Nat} {x : Str} {rty : Ty} {Fn : DFn} (c : CalG P w K mg base k x tys rty Fn) (hk : k ≤ n) (i : ι) {t : TA} (hg : Gl (Xf i) x) (ha : PA (Xf i) (a :: es) t)
    (hdb : (x == ("__debug__" : Str)) = false := by decide) (he : starEach (a :: es) (Xf i).env = (false, eval a (Xf i).env) :: starEach es (Xf i).env := by rfl) (hpl : (backTo pos (starEach es (Xf i).env)).any (·.1) = false := by rfl) :
    PE (Xf i) (.Call (.Name x p) (a :: es) [] pos) (tCallG (spD K tys rty Fn) t) := by
  obtain ⟨fa, fd, ps, FN, hm, kp, b⟩ := c.ex
  have e1 := F.prog i
  have e2 := F.w_ i
  have e3 := F.kk i
  have e4 := F.mg_ i
  have e5 := F.base_ i
  refine ⟨fun pins s σ H Q I h => ?_⟩
  refine wpAny_Call_Name_kw (ld_glob I hg (by rw [e4]; exact hm) ?_ hdb)
  refine PySem.W.callWith_K (h₀ := (Xf i).base) I.ok.mod.kin (by rw [e3]; exact kp) (thn (ha.run pos pins s σ H _ I h) fun us s1 ⟨vs, H1, I1, r1, q1⟩ => ⟨I1.kIn, ?_⟩) he hpl
  subst e1 e2 e3 e4 e5
  exact run_fnG FN ((rmOf F FG i).mono hk) (FG.gd i) b I1 r1 q1
include F FG in
theorem pd_call {k : Nat} {x : Str} {rty : Ty} {Fn : DFn} (c : CalG P w K mg base k x tys rty Fn) (ha : PAL Xf K m (a :: es) tys L fr m1) (hk : k ≤ n := by decide) (hg : ∀ i, Gl (Xf i) x := by intro _; rfl)
    (hdb : (x == ("__debug__" : Str)) = false := by decide) (he : ∀ i, starEach (a :: es) (Xf i).env = (false, eval a (Xf i).env) :: starEach es (Xf i).env := by intro _; rfl) (hpl : ∀ i, (backTo pos (starEach es (Xf i).env)).any (·.1) = false := by intro _; rfl) :
    PD Xf K m (.Call (.Name x p) (a :: es) [] pos) rty (eCall Fn fr) m1 := by
  obtain ⟨ta, pa, da⟩ := ha.ex
  refine ⟨_, fun i => pe_callG c hk i (hg i) (pa i) hdb (he i) (hpl i), fun {G H σ e A d e' Q} st hf k' => ?_⟩
  unfold eCall at hf
  obtain ⟨⟨ds, e1⟩, hf1, hf⟩ := oBs hf
  obtain ⟨⟨d1, fs⟩, hf2, hf⟩ := oBs hf
  cases hf
  refine da st hf1 fun G1 H1 vs A1 B1 s1 st1 o1 nd1 _ => ?_
  have nd := List.nodup_append.mp nd1
  refine ⟨ds, _, fs, G1, A1, hf2, o1, nd.1, st1.sub, fun G2 H2 v Av A2 s2 o2 ov nd2 sub2 => ?_⟩
  -- the state's own objects are kept aside
  have nd1' : (B1 ++ A1).Nodup := List.nodup_append.mpr ⟨nd.2.1, nd.1, fun a ha b hb z => nd.2.2 b hb a ha z.symm⟩
  have s1' : Step A G H (B1 ++ A1) G1 H1 := ⟨s1.sg, s1.fr, fun a ha => s1.own a ((List.mem_append.mp ha).elim (fun z => List.mem_append_right _ z) fun z => List.mem_append_left _ z), s1.gnew⟩
  obtain ⟨s3, nd3, hg', hh'⟩ := s1'.seq (ownA_at st1.own) nd1' s2 nd2
  have n3 := List.nodup_append.mp nd3
  have n4 := List.nodup_append.mp n3.2.1
  have st2 : Stt K m1 G2 H2 σ e1 B1 := ⟨ownA_fr st1.own s2.sg hg' hh', st1.nd, sub2⟩
  refine k' G2 H2 v Av B1 (s3.less fun a ha => ?_) st2 ov ?_
  · rcases List.mem_append.mp ha with z | z
    · exact List.mem_append_right _ (List.mem_append_left _ z)
    · exact List.mem_append_left _ z
  · exact List.nodup_append.mpr ⟨n4.1, n3.1, fun a ha b hb z => n3.2.2 b hb a (List.mem_append_left _ ha) z.symm⟩
include F FG in
theorem pd_callL {k kk j : Nat} {x : Str} {rty t : Ty} {Fn : DFn} (c : CalG P w K mg base k x tys rty Fn) {tys' : List Ty} (ha : PAL Xf K m (a :: es) tys' L fr m1) (hm : m1[j]? = some t := by rfl) (hL : L[kk]? = some (some j) := by rfl) (hu : tys'[kk]? = some .u := by rfl) (ht : tys'.set kk t = tys := by rfl)
    (hk : k ≤ n := by decide) (hg : ∀ i, Gl (Xf i) x := by intro _; rfl)
    (hdb : (x == ("__debug__" : Str)) = false := by decide) (he : ∀ i, starEach (a :: es) (Xf i).env = (false, eval a (Xf i).env) :: starEach es (Xf i).env := by intro _; rfl) (hpl : ∀ i, (backTo pos (starEach es (Xf i).env)).any (·.1) = false := by intro _; rfl) :
    PD Xf K m (.Call (.Name x p) (a :: es) [] pos) rty (eCallL Fn kk j fr) m1 := by
  obtain ⟨ta, pa, da⟩ := ha.ex
  refine ⟨_, fun i => pe_callG c hk i (hg i) (pa i) hdb (he i) (hpl i), fun {G H σ e A d e' Q} st hf k' => ?_⟩
  unfold eCallL at hf
  obtain ⟨⟨ds, e1⟩, hf1, hf⟩ := oBs hf
  obtain ⟨⟨d1, fs⟩, hf2, hf⟩ := oBs hf
  cases hf
  refine da st hf1 fun G1 H1 vs A1 B1 s1 st1 o1 nd1 lk => ?_
  obtain ⟨dj, vj, Aj, B0, h1, h2, h3, h4, hp⟩ := ownA_take st1.own hm
  obtain ⟨v0, hv0, hs0⟩ := lk kk j hL
  have hvj : vj = some v0 := by rw [hs0] at h2; exact (Option.some.inj h2).symm
  subst hvj
  obtain ⟨A2, o2, p2⟩ := ownA_put o1 hu h3
  rw [ht] at o2
  have hvs : (vs.map some).set kk (some v0) = vs.map some := set_id (by rw [List.getElem?_map, hv0]; rfl)
  rw [hvs] at o2
  have ed : e1.getD j .none = dj := by rw [List.getD_eq_getElem?_getD, h1]; rfl
  rw [ed] at hf2
  have nd := List.nodup_append.mp nd1
  have ndB := List.nodup_append.mp (hp.nodup_iff.mp nd.2.1)
  -- what the callee holds; what is kept aside
  have pall : (A1 ++ B1).Perm (B0 ++ A2) := by
    refine (List.Perm.append_left A1 hp).trans ?_
    refine List.Perm.trans ?_ (List.Perm.append_left B0 p2.symm)
    rw [← List.append_assoc]
    refine List.perm_append_comm.trans (List.Perm.append_left B0 List.perm_append_comm)
  have nd2 : (B0 ++ A2).Nodup := pall.nodup_iff.mp nd1
  have n2 := List.nodup_append.mp nd2
  refine ⟨ds.set kk dj, _, fs, G1, A2, hf2, o2, n2.2.1, st1.sub, fun G2 H2 v Av A3 s2 o3 ov nd3 sub2 => ?_⟩
  have s1' : Step A G H (B0 ++ A2) G1 H1 := ⟨s1.sg, s1.fr, fun a ha => s1.own a (pall.mem_iff.mpr ha), s1.gnew⟩
  obtain ⟨s3, nd4, hg', hh'⟩ := s1'.seq (ownA_at h4) nd2 s2 nd3
  have n4 := List.nodup_append.mp nd4
  have n5 := List.nodup_append.mp n4.2.1
  have o0 := ownA_fr h4 s2.sg hg' hh'
  have hkk : tys[kk]? = some t := by
    rw [← ht]
    have := (List.getElem?_eq_some_iff.mp hu).1
    simp [this]
  obtain ⟨df, vf, Af, A4, g1, g2, g3, g4, gp⟩ := ownA_take o3 hkk
  have hvf : vf = some v0 := by rw [List.getElem?_map, hv0] at g2; exact (Option.some.inj g2).symm
  subst hvf
  have hj : (m1.set j .u)[j]? = some .u := by
    have := (List.getElem?_eq_some_iff.mp hm).1
    simp [this]
  obtain ⟨B2, o4, p4⟩ := ownA_put o0 hj g3
  rw [List.set_set, set_id hm, set_id h2] at o4
  have ef : fs.getD kk .none = df := by rw [List.getD_eq_getElem?_getD, g1]; rfl
  rw [ef] at k'
  have gn := List.nodup_append.mp (gp.nodup_iff.mp n5.2.1)
  have inA3 : ∀ a, a ∈ Af → a ∈ A3 := fun a h => gp.mem_iff.mpr (List.mem_append_left _ h)
  have ndB2 : B2.Nodup := p4.nodup_iff.mpr (List.nodup_append.mpr ⟨gn.1, n4.1, fun a ha b hb z => n4.2.2 b hb a (List.mem_append_right _ (inA3 a ha)) z.symm⟩)
  have inB2 : ∀ a, a ∈ B2 → a ∈ Af ∨ a ∈ B0 := fun a h => List.mem_append.mp (p4.mem_iff.mp h)
  have st2 : Stt K m1 G2 H2 σ (e1.set j df) B2 := ⟨o4, ndB2, sub2⟩
  refine k' G2 H2 v Av B2 (s3.less fun a ha => ?_) st2 ov ?_
  · rcases List.mem_append.mp ha with z | z
    · exact List.mem_append_right _ (List.mem_append_left _ z)
    · rcases inB2 a z with z | z
      · exact List.mem_append_right _ (List.mem_append_right _ (inA3 a z))
      · exact List.mem_append_left _ z
  · refine List.nodup_append.mpr ⟨n5.1, ndB2, fun a ha b hb z => ?_⟩
    subst z
    rcases inB2 a hb with z | z
    · exact n5.2.2 a ha a (inA3 a z) rfl
    · exact n4.2.2 a z a (List.mem_append_left _ ha) rfl
end
end DL
namespace DL
open PySem L2 PySem.Spec
theorem bt_len : bootBuiltins "len" = some (.builtin "len") := by decide +kernel
theorem bt_tuple : bootBuiltins "tuple" = some (.type "tuple") := by decide +kernel
theorem bt_list : bootBuiltins "list" = some (.type "list") := by decide +kernel
theorem bt_int : bootBuiltins "int" = some (.type "int") := by decide +kernel
theorem bt_bool : bootBuiltins "bool" = some (.type "bool") := by decide +kernel
theorem bt_sorted : bootBuiltins "sorted" = some (.builtin "sorted") := by decide +kernel
theorem bt_max : bootBuiltins "max" = some (.builtin "max") := by decide +kernel
theorem bt_abs : bootBuiltins "abs" = some (.builtin "abs") := by decide +kernel
theorem bt_isinstance : bootBuiltins "isinstance" = some (.builtin "isinstance") := by decide +kernel
def gLen : PyData → Option PyData
  | .list xs => some (.int xs.length)
  | .tuple xs => some (.int xs.length)
  | .str z => some (.int z.length)
  | _ => none
def gTuple : PyData → Option PyData
  | .list xs => some (.tuple xs)
  | .tuple xs => some (.tuple xs)
  | _ => none
def gList : PyData → Option PyData
  | .list xs => some (.list xs)
  | .tuple xs => some (.list xs)
  | _ => none
def likeOk (xs : List PyData) : Bool := PyData.plainAll xs && xs.all (fun x => xs.all fun y => PySem.W.alike x y) && xs.all (fun x => match x with | .none => false | _ => true) && decide (PyData.depthAll xs ≤ 60)
def gMax : PyData → Option PyData
  | .list (x :: xs) => if likeOk (x :: xs) = true then some (PySem.W.maxD x xs) else none
  | .tuple (x :: xs) => if likeOk (x :: xs) = true then some (PySem.W.maxD x xs) else none
  | _ => none
def gMax2 : PyData → PyData → Option PyData
  | .int i, .int j => some (.int (if j > i then j else i))
  | _, _ => none
def intsOf : List PyData → Option (List Int)
  | [] => some []
  | .int i :: r => (intsOf r).map (i :: ·)
  | _ :: _ => none
def gAbs : PyData → Option PyData
  | .int i => some (.int (if i < 0 then -i else i))
  | _ => none
def gInt : PyData → Option PyData
  | .int i => some (.int i)
  | .bool b => some (.int (if b then 1 else 0))
  | _ => none
def sortOk (xs : List PyData) : Bool := xs.all (fun x => xs.all fun y => PySem.W.alike x y) && (xs.all (fun x => match x with | .tuple (_ :: _) => true | _ => false) || xs.all (fun x => match x with | .none => false | .tuple _ => false | _ => true)) && decide (PyData.depthAll xs ≤ 60)
def gSorted : PyData → Option PyData
  | .list xs => if sortOk xs = true then some (.list (xs.mergeSort (PySem.W.dataLe false id))) else none
  | .tuple xs => if sortOk xs = true then some (.list (xs.mergeSort (PySem.W.dataLe false id))) else none
  | _ => none
section
variable {ι : Type} {Xf : ι → Cx} {P : Program} {w : World} {K : PySem.W.Frag} {mg : Str → Option Value} {base : Heap} {n : Nat} [F : Fam Xf P w K mg base n]
theorem depthAll_mem : ∀ {xs : List PyData} {x : PyData}, x ∈ xs → x.depth ≤ PyData.depthAll xs
  | y :: ys, x, h => by
    unfold PyData.depthAll
    rcases List.mem_cons.mp h with rfl | h
    · exact Nat.le_max_left _ _
    · exact Nat.le_trans (depthAll_mem h) (Nat.le_max_right _ _)
theorem plain_mem : ∀ {xs : List PyData} {x : PyData}, PyData.plainAll xs = true → x ∈ xs → x.plain = true
  | y :: ys, x, hp, h => by
    unfold PyData.plainAll at hp
    simp only [Bool.and_eq_true] at hp
    rcases List.mem_cons.mp h with rfl | h
    · exact hp.1
    · exact plain_mem hp.2 h
theorem like_ok {xs : List PyData} (h : likeOk xs = true) : PySem.W.AlikeAll xs ∧ PyData.depthAll xs ≤ 60 ∧ PyData.plainAll xs = true := by
  unfold likeOk at h
  simp only [Bool.and_eq_true, List.all_eq_true, decide_eq_true_eq] at h
  refine ⟨⟨fun x hx y hy => h.1.1.2 x hx y hy, fun x hx e => ?_⟩, h.2, h.1.1.1⟩
  have := h.1.2 x hx
  subst e
  simp at this
theorem reads_same {h : Heap} {v : Value} {d d' : PyData} {as as' : List Addr} (hp : d.plain = true) (r : Reads h v d as) (r' : Reads h v d' as') : d = d' := PySem.SeqAt.plain_unique d d' v as as' hp r r'
theorem dqA_at {X : Cx} {pins : List (Addr × Obj)} {σ : St} {H : Hp} {s : Shared} (I : L2.Inv X pins σ H s) {xs : List V} {ds : List PyData} (q : DqA X.K H xs ds) (pl : PyData.plainAll ds = true) {its : List Value} (rv : Vals xs its) {i : Nat} {u : Value} (hu : its[i]? = some u) :
    ∃ v d as, xs[i]? = some v ∧ ds[i]? = some d ∧ RelV v u ∧ Dq X.K H v d ∧ Reads s.heap u d as := by
  have hi : i < its.length := (List.getElem?_eq_some_iff.mp hu).1
  have hx : i < xs.length := by rw [rv.length]; exact hi
  have hd : i < ds.length := by rw [← q.1]; exact hx
  have h1 : xs[i]? = some xs[i] := List.getElem?_eq_getElem hx
  have h2 : ds[i]? = some ds[i] := List.getElem?_eq_getElem hd
  obtain ⟨u', hu', r⟩ := rv.get h1
  rw [hu] at hu'
  cases hu'
  have qv := q.2 i _ _ h1 h2
  obtain ⟨as, rd⟩ := qv.reads I (noObA_at (plainAll_noOb _ pl) h2) r
  exact ⟨_, _, as, h1, h2, r, qv, rd⟩
include F
theorem pd_b1 {m m1 : List Ty} {pos p : Pos} {a : Expr} {f : Ef} {x : Str} {id : String} {ty : Ty} {gg : PyData → Option PyData} (hc : Cl1 Xf K (.builtin id) ty gg) (hm : mg x = none) (hv : bootBuiltins x = some (.builtin id)) (ha : PD Xf K m a .s f m1) (hg : ∀ i, Gl (Xf i) x := by intro _; rfl)
    (hn : x ≠ "__name__" := by decide) (hdb : (x == ("__debug__" : Str)) = false := by decide) (he : ∀ i, starEach [a] (Xf i).env = (false, eval a (Xf i).env) :: starEach [] (Xf i).env := by intro _; rfl) (hpl : ∀ i, (backTo pos (starEach [] (Xf i).env)).any (·.1) = false := by intro _; rfl) :
    PD Xf K m (.Call (.Name x p) [a] [] pos) ty (e1 gg f) m1 := by
  obtain ⟨r, hr, dr⟩ := hc.ex
  obtain ⟨ta, pa, da⟩ := ha.ex
  exact ⟨_, fun i => pe_callB (hr i) (hg i) (by rw [F.mg_ i]; exact hm) hv (pa_cons (pa i) pa_nil (he i)) hn hdb (he i) (hpl i), DE.un da dr⟩
theorem pd_t1 {m m1 : List Ty} {pos p : Pos} {a : Expr} {f : Ef} {x : Str} {T : String} {ty : Ty} {gg : PyData → Option PyData} (hc : Cl1 Xf K (.type T) ty gg) (hm : mg x = none) (hv : bootBuiltins x = some (.type T)) (ha : PD Xf K m a .s f m1) (hg : ∀ i, Gl (Xf i) x := by intro _; rfl)
    (hn : x ≠ "__name__" := by decide) (hdb : (x == ("__debug__" : Str)) = false := by decide) (he : ∀ i, starEach [a] (Xf i).env = (false, eval a (Xf i).env) :: starEach [] (Xf i).env := by intro _; rfl) (hpl : ∀ i, (backTo pos (starEach [] (Xf i).env)).any (·.1) = false := by intro _; rfl) :
    PD Xf K m (.Call (.Name x p) [a] [] pos) ty (e1 gg f) m1 := by
  obtain ⟨r, hr, dr⟩ := hc.ex
  obtain ⟨ta, pa, da⟩ := ha.ex
  exact ⟨_, fun i => pe_callTy (hr i) (hg i) (by rw [F.mg_ i]; exact hm) hv (pa_cons (pa i) pa_nil (he i)) hn hdb (he i) (hpl i), DE.un da dr⟩
theorem pd_b2 {m m1 m2 : List Ty} {pos p : Pos} {a b : Expr} {f g : Ef} {x : Str} {id : String} {ty : Ty} {gg : PyData → PyData → Option PyData} (hc : Cl2 Xf K (.builtin id) ty gg) (hm : mg x = none) (hv : bootBuiltins x = some (.builtin id)) (ha : PD Xf K m a .s f m1) (hb : PD Xf K m1 b .s g m2) (hg : ∀ i, Gl (Xf i) x := by intro _; rfl)
    (hn : x ≠ "__name__" := by decide) (hdb : (x == ("__debug__" : Str)) = false := by decide) (he : ∀ i, starEach [a, b] (Xf i).env = (false, eval a (Xf i).env) :: starEach [b] (Xf i).env := by intro _; rfl) (he2 : ∀ i, starEach [b] (Xf i).env = (false, eval b (Xf i).env) :: starEach [] (Xf i).env := by intro _; rfl) (hpl : ∀ i, (backTo pos (starEach [b] (Xf i).env)).any (·.1) = false := by intro _; rfl) :
    PD Xf K m (.Call (.Name x p) [a, b] [] pos) ty (e2 gg f g) m2 := by
  obtain ⟨r, hr, dr⟩ := hc.ex
  obtain ⟨ta, pa, da⟩ := ha.ex
  obtain ⟨tb, pb, db⟩ := hb.ex
  exact ⟨_, fun i => pe_callB (hr i) (hg i) (by rw [F.mg_ i]; exact hm) hv (pa_cons (pa i) (pa_cons (pb i) pa_nil (he2 i)) (he i)) hn hdb (he i) (hpl i), DE.bin da db dr⟩
theorem kkC {r : PySem.W.Frag → List V → Hp → VK → Prop} {f : Value} (h : ∀ X : Cx, CallR X f (r X.K)) (i : ι) : CallR (Xf i) f (r K) := by
  have := h (Xf i)
  rw [F.kk i] at this
  exact this
theorem clLen : Cl1 Xf K (.builtin "len") .s gLen := by
  refine ⟨_, fun i => CallR.or (kkC (r := fun K xs H Q => ∃ p ys, xs = [.ref p] ∧ (SqL K H p ys ∨ SqT K H p ys) ∧ Q (.int ys.length) H) (fun X => call_len_seq) i) call_len_str, fun {m G H σ e A x dx d Q} st hx ee k => ?_⟩
  cases dx with
  | list ds =>
    cases ee
    obtain ⟨a, xs, rfl, r1, z1, q1⟩ := dq_lst hx
    exact .inl ⟨a, xs, rfl, .inl (.inl (same_rd st.sub r1)), by rw [q1.1]; exact ans_s st (.int _) k⟩
  | tuple ds =>
    cases ee
    obtain ⟨a, xs, rfl, r1, z1, q1⟩ := dq_tup hx
    exact .inl ⟨a, xs, rfl, .inr (same_seqT st.sub r1), by rw [q1.1]; exact ans_s st (.int _) k⟩
  | str z =>
    cases ee
    obtain ⟨rfl, z1⟩ := dq_str hx
    exact .inr ⟨_, rfl, z1, ans_s st (.int _) k⟩
  | _ => cases ee
theorem clTuple : Cl1 Xf K (.type "tuple") .s gTuple := by
  refine ⟨_, fun i => kkC (r := fun K xs H Q => ∃ p ys, xs = [.ref p] ∧ ((SqL K H p ys ∧ NewT H ys Q) ∨ (SqT K H p ys ∧ Q (.ref p) H))) (fun X => call_tuple_ofN) i, fun {m G H σ e A x dx d Q} st hx ee k => ?_⟩
  cases dx with
  | list ds =>
    cases ee
    obtain ⟨a, xs, rfl, r1, z1, q1⟩ := dq_lst hx
    exact ⟨a, xs, rfl, .inl ⟨.inl (same_rd st.sub r1), ans_tup st q1 z1 k⟩⟩
  | tuple ds =>
    cases ee
    obtain ⟨a, xs, rfl, r1, z1, q1⟩ := dq_tup hx
    exact ⟨a, xs, rfl, .inr ⟨same_seqT st.sub r1, ans_s st hx k⟩⟩
  | _ => cases ee
theorem clList : Cl1 Xf K (.type "list") (.l .s) gList := by
  refine ⟨_, fun i => kkC (r := fun K xs H Q => ∃ p ys, xs = [.ref p] ∧ (SqL K H p ys ∨ SqT K H p ys) ∧ ∀ l, H l = none → Q (.ref l) (upd H l (.lst ys))) (fun X => call_list_of) i, fun {m G H σ e A x dx d Q} st hx ee k => ?_⟩
  cases dx with
  | list ds =>
    cases ee
    obtain ⟨a, xs, rfl, r1, z1, q1⟩ := dq_lst hx
    exact ⟨a, xs, rfl, .inl (.inl (same_rd st.sub r1)), ans_lst st q1 z1 k⟩
  | tuple ds =>
    cases ee
    obtain ⟨a, xs, rfl, r1, z1, q1⟩ := dq_tup hx
    exact ⟨a, xs, rfl, .inr (same_seqT st.sub r1), ans_lst st q1 z1 k⟩
  | _ => cases ee
def rItem (K : PySem.W.Frag) (gg : List PyData → Option PyData) : List V → Hp → VK → Prop := fun vs H Q => ∃ a xs ds d, vs = [.ref a] ∧ (SqL K H a xs ∨ SqT K H a xs) ∧ DqA K H xs ds ∧ gg ds = some d ∧ ∀ (i : Nat) v, xs[i]? = some v → ds[i]? = some d → Q v H
def gMaxL : List PyData → Option PyData
  | x :: xs => if likeOk (x :: xs) = true then some (PySem.W.maxD x xs) else none
  | [] => none
omit F in
theorem d1Item {gg : List PyData → Option PyData} {g' : PyData → Option PyData} (h : ∀ x d, g' x = some d → ∃ ds, (x = .list ds ∨ x = .tuple ds) ∧ gg ds = some d) : D1 K (fun x => rItem K gg [x]) .s g' := fun {m G H σ e A x dx d Q} st hx ee k => by
  obtain ⟨ds, hds, e1⟩ := h _ _ ee
  rcases hds with rfl | rfl
  · obtain ⟨a, xs, rfl, r1, z1, q1⟩ := dq_lst hx
    exact ⟨a, xs, ds, d, rfl, .inl (.inl (same_rd st.sub r1)), q1.mono st.sub, e1, fun i v h1 h2 => ans_s st (q1.2 i v d h1 h2) k⟩
  · obtain ⟨a, xs, rfl, r1, z1, q1⟩ := dq_tup hx
    exact ⟨a, xs, ds, d, rfl, .inr (same_seqT st.sub r1), q1.mono st.sub, e1, fun i v h1 h2 => ans_s st (q1.2 i v d h1 h2) k⟩
theorem item_back {i : ι} {pins : List (Addr × Obj)} {σ : St} {H : Hp} {s : Shared} {Q : VK} (I : L2.Inv (Xf i) pins σ H s) {xs : List V} {ds : List PyData} (q : DqA (Xf i).K H xs ds) (hpl : PyData.plainAll ds = true) {its : List Value} (rv : Vals xs its) {d : PyData}
    (hq : ∀ (i : Nat) v, xs[i]? = some v → ds[i]? = some d → Q v H) {j : Nat} {v : Value} {h' : Heap} {tk : Nat} {bs : List Addr} (hv : its.toArray[j]? = some v) (r : Reads h' v d bs) (hk : ∀ b o, s.heap.get? b = some o → h'.get? b = some o) : EP (Xf i) pins σ Q v { s with heap := h', toks := tk } := by
  obtain ⟨x, d', as, h1, h2, rr, qq, rd⟩ := dqA_at I q hpl rv (by simpa using hv)
  obtain rfl := reads_same (plain_mem hpl (List.mem_of_getElem? h2)) (PyProof.Rows.Reads.keeps hk rd) r
  exact ⟨x, H, I.kept hk, rr, hq j x h1 h2⟩
theorem clMax [FG : FamG Xf] : Cl1 Xf K (.builtin "max") .s gMax := by
  refine ⟨rItem K gMaxL, fun i => ?_, d1Item fun x d e => ?_⟩
  · intro pins s σ H vs us Q I r h
    obtain ⟨a, xs, ds, d, rfl, hs, q, e, hq⟩ := h
    rw [← F.kk i] at hs q
    rw [Vals.ref1 r]
    cases ds with
    | nil => cases e
    | cons y ys =>
      obtain ⟨hl, rfl⟩ := ite_some e
      obtain ⟨al, dp, pl⟩ := like_ok hl
      have hu : (Xf i).A.units + 1 + PyData.depthAll (y :: ys) < cLine := hu60 (F.room i) dp
      rcases hs with hs | hs
      · obtain ⟨its, rv, hL, _⟩ := I.list hs
        obtain ⟨as, hr⟩ := q.reads I (plainAll_noOb _ pl) rv
        exact PySem.W.max_list_data (I.ok.hd (FG.calm i)) hL.isList hr al hu fun j v h' tk bs hv rd hk => item_back I q pl rv hq hv rd hk
      · obtain ⟨its, rv, hL, _⟩ := I.tuple hs
        obtain ⟨as, hr⟩ := q.reads I (plainAll_noOb _ pl) rv
        exact PySem.W.max_tuple_data (I.ok.hd (FG.calm i)) hL hr al hu fun j v h' tk bs hv rd hk => item_back I q pl rv hq hv rd hk
  · unfold gMax at e
    split at e
    · exact ⟨_, .inl rfl, e⟩
    · exact ⟨_, .inr rfl, e⟩
    · cases e
theorem clAbs : Cl1 Xf K (.builtin "abs") .s gAbs := ⟨_, fun i => call_abs, fun {m G H σ e A x dx d Q} st hx ee k => by
  cases dx with
  | int i =>
    cases ee
    obtain rfl := dq_int hx
    exact ⟨i, rfl, ans_s st (.int _) k⟩
  | _ => cases ee⟩
theorem clInt : Cl1 Xf K (.type "int") .s gInt := ⟨_, fun i => call_int1, fun {m G H σ e A x dx d Q} st hx ee k => by
  cases dx with
  | int i =>
    cases ee
    obtain rfl := dq_int hx
    exact .inl ⟨i, rfl, ans_s st (.int _) k⟩
  | bool b =>
    cases ee
    obtain rfl := dq_bool hx
    exact .inr ⟨b, rfl, ans_s st (.int _) k⟩
  | _ => cases ee⟩
theorem clMax2 [FG : FamG Xf] : Cl2 Xf K (.builtin "max") .s gMax2 := ⟨_, fun i => call_max2 (FG.calm i), fun {m G H σ e A x y dx dy d Q} st hx hy ee k => by
  unfold gMax2 at ee
  split at ee
  · cases ee
    obtain rfl := dq_int hx
    obtain rfl := dq_int hy
    exact ⟨_, _, rfl, ans_s st (.int _) k⟩
  · cases ee⟩
end
end DL
namespace DL
open PySem L2 PySem.Spec
theorem bt_enumerate : bootBuiltins "enumerate" = some (.type "enumerate") := by decide +kernel
set_option maxHeartbeats 8000000 in
theorem meets_enum1 {v : Value} {o : Obj} {H : Heap → Prop} (B : Begins v o H) :
    Meets (Builtin.«enumerate.__new__» ⟨[.type "enumerate", v], []⟩) (fun _ R s => H s.heap ∧
      R (.ok (.ret (.ref (s.heap.push o).objs.size))) { s with heap := (s.heap.push o).push { cls := .type "enumerate", data := .fields #[.none, .bool false, .ref s.heap.objs.size, rawInt 0, .none, .none] } }) :=
  .of_wp fun prog w A R s hh => by
    obtain ⟨hp, g, d, tk, os⟩ := s
    obtain ⟨hb, hr⟩ := hh
    have sube := sub_enumerate
    have beg : ∀ {A' : Around} {E : Value → Shared → Prop} {Q : Value → Shared → Prop}, Q (.ref hp.objs.size) ⟨hp.push o, g, d, tk, os⟩ → wpAny (model prog w) A' (pyIter v) Q E ⟨hp, g, d, tk, os⟩ :=
      fun q => B.iter prog w _ _ _ _ hb q
    wp_walk using beg
    refine wpAny_stack_any fun stk => wpAny_pure ?_
    split
    · rename_i cl _ _ _ _ _
      cases (cl == Value.type "enumerate") <;> (wp_walk using beg; exact ⟨_, rfl, hr⟩)
    · wp_walk using beg
      exact ⟨_, rfl, hr⟩
theorem call_enum1 {prog : Program} {w : World} {A : Around} {E : Value → Shared → Prop} {s : Shared} {v : Value} {o : Obj} {H : Heap → Prop} {Q : Value → Shared → Prop} (B : Begins v o H) (hb : H s.heap)
    (k : ∀ h', IsEnum h' (s.heap.objs.size + 1) s.heap.objs.size 0 .none → h'.get? s.heap.objs.size = some o → (∀ b u, s.heap.get? b = some u → h'.get? b = some u) → Q (.ref (s.heap.objs.size + 1)) { s with heap := h' }) :
    wpAny (model prog w) A (call (.type "enumerate") [v]) Q E s := by
  refine callType_new PySem.F.called_enumerate (by decide) (PySem.F.typeCall_enumerate_1 _) (PySem.F.newCall_enumerate_1 _) (fun obj => PySem.F.args_object_init_2 obj _) PySem.F.entry_enumerate_new (meets_enum1 B) ⟨hb, ?_⟩
  have sz : (s.heap.push o).objs.size = s.heap.objs.size + 1 := Heap.size_push ..
  have at1 : IsEnum ((s.heap.push o).push { cls := .type "enumerate", data := .fields #[.none, .bool false, .ref s.heap.objs.size, rawInt 0, .none, .none] }) (s.heap.push o).objs.size s.heap.objs.size 0 .none := Heap.get?_push_size _ rfl
  show _ ∧ _
  rw [sz] at at1 ⊢
  exact ⟨⟨_, at1, rfl⟩, k _ at1 (Heap.get?_push_of_some _ (Heap.get?_push_size _ B.free)) fun b u q => Heap.get?_push_of_some _ (Heap.get?_push_of_some _ q)⟩
def IteT (K : PySem.W.Frag) (a : Addr) : It where
  go i H := ∃ (xs : List V) (x : V), SqT K H a xs ∧ xs[i]? = some x
  yld i H v H' := ∃ (T : Addr) (x : V), v = .ref T ∧ H T = none ∧ H' = upd H T (.tup [.int (i : Nat), x]) ∧ ∀ xs, SqT K H a xs → xs[i]? = some x
  stop i H := ∃ xs : List V, SqT K H a xs ∧ xs.length = i
theorem turn_enumT {P : Program} {w : World} {K : PySem.W.Frag} {elts : List Expr} {kk : Nat} {tpos : Pos} (a e it : Addr) :
    Turn P w K (.Tuple elts kk tpos) (IteT K a) [e, it] e (fun i h => (∃ old, IsEnum h e it ((i : Nat) : Int) old) ∧ h.IsTupleIter it a i ∧ e ≠ it) where
  mem := List.mem_cons_self ..
  obj i h st b hb := by
    rcases List.mem_cons.mp hb with rfl | hb
    · obtain ⟨old, he⟩ := st.1
      exact ⟨_, he, fun _ z => nomatch z⟩
    · obtain rfl := List.mem_singleton.mp hb
      obtain ⟨o, ho, _, hd⟩ := st.2.1
      exact ⟨o, ho, fun _ z => by rw [hd] at z; cases z⟩
  keep i h h' st k := ⟨st.1.imp fun old he => k e (List.mem_cons_self ..) _ he, st.2.1.at fun o z => k it (List.mem_cons_of_mem _ (List.mem_singleton.mpr rfl)) o z, st.2.2⟩
  item := by
    rintro X rfl rfl rfl calm i pins s σ H E I own ⟨⟨old, he⟩, hit, ne⟩ ⟨xs, x, hq, hx⟩
    obtain ⟨its, rv, tp, _⟩ := I.tuple hq
    obtain ⟨u, hu, ru⟩ := rv.get hx
    have le := Heap.lt_size he
    have li : it < s.heap.objs.size := hit.elim fun o z => Heap.lt_size z.1
    have lt : i < its.toArray.size := by simpa using (List.getElem?_eq_some_iff.mp hu).1
    have ta : a ≠ it := fun z => by
      obtain ⟨o, ho, hc, _⟩ := hit
      obtain ⟨o', ho', hc', _⟩ := tp
      rw [z, ho] at ho'; cases ho'
      rw [hc] at hc'; exact absurd (Value.type.inj hc') (by decide)
    have ea : e ≠ a := fun z => by
      obtain ⟨o', ho', hc', _⟩ := tp
      rw [← z, he] at ho'; cases ho'
      exact absurd (Value.type.inj hc') (by decide)
    have hefp : e ∉ [it, a] := fun z => by
      rcases List.mem_cons.mp z with z | z
      · exact ne z
      · exact ea (List.mem_singleton.mp z)
    refine wpAny_pyNext_enum_itemC (Draws.tuple (A := X.A.in1) (I.ok.hd calm) it a ta its.toArray) he ⟨hit, tp⟩ lt ne hefp fun y h1 tk hy out st1 hT sz kept => ?_
    have hyu : y = u := by
      have : its.toArray[i]? = some u := by simpa using hu
      rw [this] at hy; exact (Option.some.inj hy).symm
    subst hyu
    refine ⟨_, rfl, wpAny_letOwnedTupleGo_enum (s := { s with heap := h1, toks := tk + 1 }) out fun h2 he2 same => ?_⟩
    have T2 : h2.get? s.heap.objs.size = some { cls := .type "tuple", data := .seq #[.int i tk, y] } := (same.2 _ (Nat.ne_of_gt le)).trans hT
    have okT : ObjOk X.prog X.w (upd H s.heap.objs.size (.tup [.int (i : Nat), x])) h2 s.heap.objs.size (.tup [.int (i : Nat), x]) :=
      ⟨by show 2 ≤ sizeLine; decide, [.int i tk, y], .cons ⟨tk, rfl⟩ (.cons ru .nil), ⟨_, T2, rfl, _, rfl⟩⟩
    have J := I.turnedNew (t' := tk + 1) (ch := [e, it]) (h' := h2) (fun b ob hb q => (same.2 b fun z => hb (by rw [z]; exact List.mem_cons_self ..)).trans (kept b ob (fun z => hb (by rw [z]; exact List.mem_cons_self ..)) (fun z => hb (by rw [z]; exact List.mem_cons_of_mem _ (List.mem_singleton.mpr rfl))) q)) own (Nat.le_refl _) okT
    refine ⟨.ref s.heap.objs.size, _, J, rfl, ⟨_, x, rfl, I.hok.fresh (Nat.le_refl _), rfl, fun ys hy' => by rw [I.tuple_inj hy' hq]; exact hx⟩, ⟨⟨y, by rw [show ((i + 1 : Nat) : Int) = (i : Int) + 1 by omega]; exact he2⟩, st1.1.at fun o q => (same.2 it (Ne.symm ne)).trans q, ne⟩, fun b hb => ?_⟩
    have lb : b < s.heap.objs.size := by
      rcases List.mem_cons.mp hb with z | z
      · rw [z]; exact le
      · rw [List.mem_singleton.mp z]; exact li
    rw [upd_ne (Nat.ne_of_lt lb)]
    exact (own b hb).1
  done := by
    rintro X rfl rfl rfl calm i pins s σ H E I own ⟨⟨old, he⟩, hit, ne⟩ ⟨xs, hq, hx⟩
    obtain ⟨its, rv, tp, _⟩ := I.tuple hq
    have ta : a ≠ it := fun z => by
      obtain ⟨o, ho, hc, _⟩ := hit
      obtain ⟨o', ho', hc', _⟩ := tp
      rw [z, ho] at ho'; cases ho'
      rw [hc] at hc'; exact absurd (Value.type.inj hc') (by decide)
    obtain ⟨f0, f1, f2, f3, f4, f5⟩ := own it (List.mem_cons_of_mem _ (List.mem_singleton.mpr rfl))
    have hz : its.toArray.size = i := by have := rv.length; simp; omega
    subst hz
    exact wpAny_pyNext_enum_endD (Draws.tuple (A := X.A.in1) (I.ok.hd calm) it a ta its.toArray) he ⟨hit, tp⟩ fun h' eb => ⟨rfl, I.turned (t' := s.toks) (fun b o hb q => eb b o hb q) f0 f1 f3 f4 f5⟩
  self A i s Q E st q := st.1.elim fun old he => wpAny_pyIter_enum he q
end DL
namespace DL
open PySem L2 PySem.Spec
theorem pi_enumT {X : Cx} {e : Expr} {ta : TA} {p pos tpos : Pos} {elts : List Expr} {kk : Nat} (hg : Gl X "enumerate") (hm : X.mg "enumerate" = none) (ha : PA X [e] ta) (hs : starEach [e] X.env = [(false, eval e X.env)] := by rfl) :
    PI X (.Tuple elts kk tpos) (.Call (.Name "enumerate" p) [e] [] pos) (fun σ H R => ta σ H fun vs H1 => ∃ a xs, vs = [.ref a] ∧ SqT X.K H1 a xs ∧ R (IteT X.K a) H1) := by
  refine ⟨fun pins s σ H R I h => PyProof.Rows.Call_ (ld_blt I hg hm bt_enumerate (PyProof.Rows.callWith_type1 (thn (ha.run pos pins s σ H _ I h) ?_) hs rfl))⟩
  rintro us s1 ⟨vs, H1, I1, r1, a, xs, rfl, hq, q⟩
  rw [Vals.ref1 r1]
  obtain ⟨its, rv, tp, hz⟩ := I1.tuple hq
  refine call_enum1 (begins_tuple a its.toArray) tp fun h' he hit hk => wpAny_pyIter_enum he ?_
  refine ⟨s1.heap.objs.size + 1, [s1.heap.objs.size + 1, s1.heap.objs.size], _, _, H1, rfl, I1.kept (t' := s1.toks) hk, turn_enumT a _ s1.heap.objs.size, ⟨⟨.none, he⟩, ⟨_, hit, rfl, rfl⟩, Nat.succ_ne_self _⟩, fun b hb => ?_, q⟩
  have le : s1.heap.objs.size ≤ b := by
    rcases List.mem_cons.mp hb with z | z
    · rw [z]; exact Nat.le_succ _
    · rw [List.mem_singleton.mp z]; exact Nat.le_refl _
  exact I1.fpOk le (I1.hok.fresh le)
theorem PI.or {X : Cx} {tg iter : Expr} {w1 w2 : TI} (h1 : PI X tg iter w1) (h2 : PI X tg iter w2) : PI X tg iter (fun σ H R => w1 σ H R ∨ w2 σ H R) :=
  ⟨fun pins s σ H R I h => h.elim (h1.run pins s σ H R I) (h2.run pins s σ H R I)⟩
def DqW (wk : Bool) (K : PySem.W.Frag) (G : Hp) (x : V) (d : PyData) : Prop := Dq K G x d ∨ (wk = true ∧ ∃ (a : Addr) (xs : List V) (ds : List PyData), x = .ref a ∧ d = .tuple ds ∧ SqT K G a xs ∧ DqA K G xs ds)
theorem DqW.strong {K : PySem.W.Frag} {G : Hp} {x : V} {d : PyData} (h : DqW false K G x d) : Dq K G x d := by
  rcases h with h | ⟨h, _⟩
  · exact h
  · cases h
theorem dqW_tup {wk : Bool} {K : PySem.W.Frag} {G : Hp} {x : V} {ds : List PyData} (h : DqW wk K G x (.tuple ds)) : ∃ a xs, x = .ref a ∧ SqT K G a xs ∧ DqA K G xs ds := by
  rcases h with h | ⟨_, a, xs, ds', h1, h2, h3, h4⟩
  · obtain ⟨a, xs, h1, h2, _, h3⟩ := dq_tup h
    exact ⟨a, xs, h1, h2, h3⟩
  · cases h2
    exact ⟨a, xs, h1, h3, h4⟩
structure WalkS (K : PySem.W.Frag) (G0 : Hp) (J : It) (ds : List PyData) : Prop where
  goes : ∀ i H, i < ds.length → Same G0 H → J.go i H
  stops : ∀ H, Same G0 H → J.stop ds.length H
  yields : ∀ {i : Nat} {H : Hp} {x : V} {H' : Hp} {m : List Ty} {G : Hp} {σ : St} {e : En} {A : List Addr}, i < ds.length → Same G0 G → Stt K m G H σ e A → J.yld i H x H' →
    ∃ G', Step A G H A G' H' ∧ Stt K m G' H' σ e A ∧ Same G G' ∧ ∀ d, ds[i]? = some d → Dq K G' x d
structure WalkD (K : PySem.W.Frag) (wk : Bool) (G0 : Hp) (J : It) (ds : List PyData) : Prop where
  goes : ∀ i H, i < ds.length → Same G0 H → J.go i H
  stops : ∀ H, Same G0 H → J.stop ds.length H
  yields : ∀ {i : Nat} {H : Hp} {x : V} {H' : Hp} {m : List Ty} {G : Hp} {σ : St} {e : En} {A : List Addr}, i < ds.length → Same G0 G → Stt K m G H σ e A → J.yld i H x H' →
    ∃ G', Step A G H A G' H' ∧ Stt K m G' H' σ e A ∧ Same G G' ∧ ∀ d, ds[i]? = some d → DqW wk K G' x d
theorem WalkS.d {wk : Bool} {K : PySem.W.Frag} {G0 : Hp} {J : It} {ds : List PyData} (h : WalkS K G0 J ds) : WalkD K wk G0 J ds :=
  ⟨h.goes, h.stops, fun hi s st y => by
    obtain ⟨G2, s2, st2, sg, k⟩ := h.yields hi s st y
    exact ⟨G2, s2, st2, sg, fun d hd => .inl (k d hd)⟩⟩
def DI (K : PySem.W.Frag) (wk : Bool) (m : List Ty) (wi : TI) (f : Lf) (m' : List Ty) : Prop :=
  ∀ {G H : Hp} {σ : St} {e : En} {A : List Addr} {ds : List PyData} {e' : En} {R : It → Hp → Prop}, Stt K m G H σ e A → f e = some (ds, e') →
    (∀ (G' H' : Hp) (A' : List Addr) (J : It), Step A G H A' G' H' → Stt K m' G' H' σ e' A' → WalkD K wk G' J ds → ds.length ≤ sizeLine → R J H') → wi σ H R
structure PIt {ι : Type} (Xf : ι → Cx) (K : PySem.W.Frag) (wk : Bool) (m : List Ty) (tg iter : Expr) (f : Lf) (m' : List Ty) : Prop where
  ex : ∃ wi : TI, (∀ i, PI (Xf i) tg iter wi) ∧ DI K wk m wi f m'
section
variable {K : PySem.W.Frag} {G H : Hp} {m : List Ty} {σ : St} {e : En} {A : List Addr}
theorem walkD_list {a : Addr} {xs : List V} {ds : List PyData} (hr : Rd G a (.lst xs)) (q : DqA K G xs ds) : WalkS K G (Itl K a) ds := by
  have l := q.1
  refine ⟨fun i H hi s => ⟨xs, xs[i]'(by omega), .inl (same_rd s hr), List.getElem?_eq_getElem (by omega)⟩, fun H s => ⟨xs, .inl (same_rd s hr), by omega⟩, fun {i H x H' m G' σ e A} hi s st y => ?_⟩
  obtain ⟨rfl, y⟩ := y
  refine ⟨G', Step.refl, st, Same.refl _, fun d hd => ?_⟩
  have hx := y xs (.inl (same_rd (s.trans st.sub) hr))
  exact (q.2 i x d hx hd).mono s
theorem walkD_tup {a : Addr} {xs : List V} {ds : List PyData} (hr : SqT K G a xs) (q : DqA K G xs ds) : WalkS K G (Itt K a) ds := by
  have l := q.1
  refine ⟨fun i H hi s => ⟨xs, xs[i]'(by omega), same_seqT s hr, List.getElem?_eq_getElem (by omega)⟩, fun H s => ⟨xs, same_seqT s hr, by omega⟩, fun {i H x H' m G' σ e A} hi s st y => ?_⟩
  obtain ⟨rfl, y⟩ := y
  refine ⟨G', Step.refl, st, Same.refl _, fun d hd => ?_⟩
  have hx := y xs (same_seqT (s.trans st.sub) hr)
  exact (q.2 i x d hx hd).mono s
def rngD (lo : Int) (n : Nat) : List PyData := (List.range n).map fun i => .int (lo + (i : Nat))
theorem rngD_len (lo : Int) (n : Nat) : (rngD lo n).length = n := by simp [rngD]
theorem walkD_range {lo : Int} {n : Nat} : WalkS K G (Itr lo n) (rngD lo n) := by
  refine ⟨fun i H hi _ => by rw [rngD_len] at hi; exact hi, fun H _ => by rw [rngD_len]; exact Nat.le_refl n, fun {i H x H' m G' σ e A} hi s st y => ?_⟩
  obtain ⟨rfl, rfl⟩ := y
  refine ⟨G', Step.refl, st, Same.refl _, fun d hd => ?_⟩
  rw [rngD_len] at hi
  unfold rngD at hd
  rw [List.getElem?_map, List.getElem?_range hi] at hd
  cases hd
  exact .int _
def enumD : Nat → List PyData → List PyData
  | _, [] => []
  | k, d :: r => .tuple [.int (k : Nat), d] :: enumD (k + 1) r
theorem enumD_len : ∀ (k : Nat) (ds : List PyData), (enumD k ds).length = ds.length
  | _, [] => rfl
  | k, d :: r => by simp [enumD, enumD_len (k + 1) r]
theorem enumD_get : ∀ (k : Nat) (ds : List PyData) (i : Nat) (d : PyData), (enumD k ds)[i]? = some d → ∃ d0, ds[i]? = some d0 ∧ d = .tuple [.int ((k + i : Nat) : Int), d0]
  | _, [], i, d, h => by simp [enumD] at h
  | k, d0 :: r, 0, d, h => by simp [enumD] at h; exact ⟨d0, rfl, by simpa using h.symm⟩
  | k, d0 :: r, i + 1, d, h => by
    obtain ⟨d1, h1, h2⟩ := enumD_get (k + 1) r i d (by simpa [enumD] using h)
    exact ⟨d1, by simpa using h1, by rw [h2]; congr 3; omega⟩
theorem pair_new {p : Addr} {x y : V} {dx dy : PyData} (st : Stt K m G H σ e A) (hp : H p = none) (hx : Dq K G x dx) (hy : Dq K G y dy) :
    ∃ G', Step A G H A G' (upd H p (.tup [x, y])) ∧ Stt K m G' (upd H p (.tup [x, y])) σ e A ∧ Same G G' ∧ DqW true K G' (.ref p) (.tuple [dx, dy]) := by
  obtain ⟨s1, st1, sg⟩ := new_s (o := .tup [x, y]) st hp
  have q : DqA K (upd G p (.tup [x, y])) [x, y] [dx, dy] := (hx.mono sg |> fun a => DqA.cons a (DqA.cons (hy.mono sg) DqA.nil))
  exact ⟨_, s1, st1, sg, .inr ⟨rfl, p, _, _, rfl, rfl, SqT.of upd_same, q⟩⟩
theorem walkD_enumL {a : Addr} {xs : List V} {ds : List PyData} (hr : Rd G a (.lst xs)) (q : DqA K G xs ds) : WalkD K true G (Ite K a) (enumD 0 ds) := by
  have l := q.1
  refine ⟨fun i H hi s => ?_, fun H s => ⟨xs, .inl (same_rd s hr), by rw [enumD_len]; omega⟩, fun {i H x H' m G' σ e A} hi s st y => ?_⟩
  · rw [enumD_len] at hi
    exact ⟨xs, xs[i]'(by omega), .inl (same_rd s hr), List.getElem?_eq_getElem (by omega)⟩
  · obtain ⟨T, z, rfl, hT, rfl, hz⟩ := y
    rw [enumD_len] at hi
    have hx := hz xs (.inl (same_rd (s.trans st.sub) hr))
    have qz := (q.2 i z _ hx (List.getElem?_eq_getElem hi)).mono s
    obtain ⟨G2, s2, st2, sg2, q2⟩ := pair_new st hT (.int ((i : Nat) : Int)) qz
    refine ⟨G2, s2, st2, sg2, fun d hd => ?_⟩
    obtain ⟨d0, h1, rfl⟩ := enumD_get 0 ds i d hd
    rw [List.getElem?_eq_getElem hi] at h1
    cases h1
    rw [Nat.zero_add]; exact q2
theorem walkD_enumT {a : Addr} {xs : List V} {ds : List PyData} (hr : SqT K G a xs) (q : DqA K G xs ds) : WalkD K true G (IteT K a) (enumD 0 ds) := by
  have l := q.1
  refine ⟨fun i H hi s => ?_, fun H s => ⟨xs, same_seqT s hr, by rw [enumD_len]; omega⟩, fun {i H x H' m G' σ e A} hi s st y => ?_⟩
  · rw [enumD_len] at hi
    exact ⟨xs, xs[i]'(by omega), same_seqT s hr, List.getElem?_eq_getElem (by omega)⟩
  · obtain ⟨T, z, rfl, hT, rfl, hz⟩ := y
    rw [enumD_len] at hi
    have hx := hz xs (same_seqT (s.trans st.sub) hr)
    have qz := (q.2 i z _ hx (List.getElem?_eq_getElem hi)).mono s
    obtain ⟨G2, s2, st2, sg2, q2⟩ := pair_new st hT (.int ((i : Nat) : Int)) qz
    refine ⟨G2, s2, st2, sg2, fun d hd => ?_⟩
    obtain ⟨d0, h1, rfl⟩ := enumD_get 0 ds i d hd
    rw [List.getElem?_eq_getElem hi] at h1
    cases h1
    rw [Nat.zero_add]; exact q2
def zipD : List PyData → List PyData → List PyData
  | a :: as, b :: bs => .tuple [a, b] :: zipD as bs
  | _, _ => []
theorem zipD_len : ∀ (as bs : List PyData), (zipD as bs).length = min as.length bs.length
  | [], _ => by simp [zipD]
  | _ :: _, [] => by simp [zipD]
  | a :: as, b :: bs => by simp [zipD, zipD_len as bs]
theorem zipD_get : ∀ (as bs : List PyData) (i : Nat) (d : PyData), (zipD as bs)[i]? = some d → ∃ x y, as[i]? = some x ∧ bs[i]? = some y ∧ d = .tuple [x, y]
  | [], _, i, d, h => by simp [zipD] at h
  | _ :: _, [], i, d, h => by simp [zipD] at h
  | a :: as, b :: bs, 0, d, h => by simp [zipD] at h; exact ⟨a, b, rfl, rfl, h.symm⟩
  | a :: as, b :: bs, i + 1, d, h => by
    obtain ⟨x, y, h1, h2, h3⟩ := zipD_get as bs i d (by simpa [zipD] using h)
    exact ⟨x, y, by simpa using h1, by simpa using h2, h3⟩
theorem walkD_zipL {a b : Addr} {xs ys : List V} {ds es : List PyData} (hr : Rd G a (.lst xs)) (q : DqA K G xs ds) (hr2 : Rd G b (.lst ys)) (q2 : DqA K G ys es) : WalkD K true G (Itz K a b) (zipD ds es) := by
  have l := q.1
  have l2 := q2.1
  refine ⟨fun i H hi s => ?_, fun H s => ⟨xs, ys, .inl (same_rd s hr), .inl (same_rd s hr2), by rw [zipD_len]; omega⟩, fun {i H x H' m G' σ e A} hi s st y => ?_⟩
  · rw [zipD_len] at hi
    exact ⟨xs, ys, xs[i]'(by omega), ys[i]'(by omega), .inl (same_rd s hr), .inl (same_rd s hr2), List.getElem?_eq_getElem (by omega), List.getElem?_eq_getElem (by omega)⟩
  · obtain ⟨T, z, z2, rfl, hT, rfl, hz, hz2⟩ := y
    have hx := hz xs (.inl (same_rd (s.trans st.sub) hr))
    have hy := hz2 ys (.inl (same_rd (s.trans st.sub) hr2))
    obtain ⟨d, hd⟩ : ∃ d, (zipD ds es)[i]? = some d := ⟨_, List.getElem?_eq_getElem hi⟩
    obtain ⟨dx, dy, h1, h2, rfl⟩ := zipD_get _ _ _ _ hd
    obtain ⟨G2, s2, st2, sg2, q3⟩ := pair_new st hT ((q.2 i z _ hx h1).mono s) ((q2.2 i z2 _ hy h2).mono s)
    exact ⟨G2, s2, st2, sg2, fun d' hd' => by rw [hd] at hd'; cases hd'; exact q3⟩
theorem walkD_zipT {a b : Addr} {xs ys : List V} {ds es : List PyData} (hr : SqT K G a xs) (q : DqA K G xs ds) (hr2 : SqT K G b ys) (q2 : DqA K G ys es) : WalkD K true G (RZ.ItzT K a b) (zipD ds es) := by
  have l := q.1
  have l2 := q2.1
  refine ⟨fun i H hi s => ?_, fun H s => ⟨xs, ys, same_seqT s hr, same_seqT s hr2, by rw [zipD_len]; omega⟩, fun {i H x H' m G' σ e A} hi s st y => ?_⟩
  · rw [zipD_len] at hi
    exact ⟨xs, ys, xs[i]'(by omega), ys[i]'(by omega), same_seqT s hr, same_seqT s hr2, List.getElem?_eq_getElem (by omega), List.getElem?_eq_getElem (by omega)⟩
  · obtain ⟨T, z, z2, rfl, hT, rfl, hz, hz2⟩ := y
    have hx := hz xs (same_seqT (s.trans st.sub) hr)
    have hy := hz2 ys (same_seqT (s.trans st.sub) hr2)
    obtain ⟨d, hd⟩ : ∃ d, (zipD ds es)[i]? = some d := ⟨_, List.getElem?_eq_getElem hi⟩
    obtain ⟨dx, dy, h1, h2, rfl⟩ := zipD_get _ _ _ _ hd
    obtain ⟨G2, s2, st2, sg2, q3⟩ := pair_new st hT ((q.2 i z _ hx h1).mono s) ((q2.2 i z2 _ hy h2).mono s)
    exact ⟨G2, s2, st2, sg2, fun d' hd' => by rw [hd] at hd'; cases hd'; exact q3⟩
end
def seqD : PyData → Option (List PyData)
  | .list xs => some xs
  | .tuple xs => some xs
  | _ => none
def iSeq (f : Ef) : Lf := fun e => (f e).bind fun p => (seqD p.1).bind fun ds => some (ds, p.2)
def iEn (f : Ef) : Lf := fun e => (f e).bind fun p => (seqD p.1).bind fun ds => some (enumD 0 ds, p.2)
def zipS : PyData → PyData → Option (List PyData)
  | .list xs, .list ys => some (zipD xs ys)
  | .tuple xs, .tuple ys => some (zipD xs ys)
  | _, _ => none
def iZp (f g : Ef) : Lf := fun e => (f e).bind fun p => (g p.2).bind fun q => (zipS p.1 q.1).bind fun ds => some (ds, q.2)
def rng1 : PyData → Option (List PyData)
  | .int j => if j.toNat ≤ sizeLine ∧ -(2 ^ 62) ≤ j ∧ j < 2 ^ 62 then some (rngD 0 j.toNat) else none
  | _ => none
def rng2 : PyData → PyData → Option (List PyData)
  | .int i, .int j => if (j - i).toNat ≤ sizeLine ∧ -(2 ^ 62) ≤ i ∧ i < 2 ^ 62 ∧ -(2 ^ 62) ≤ j ∧ j < 2 ^ 62 then some (rngD i (j - i).toNat) else none
  | _, _ => none
def iR1 (f : Ef) : Lf := fun e => (f e).bind fun p => (rng1 p.1).bind fun ds => some (ds, p.2)
def iR2 (f g : Ef) : Lf := fun e => (f e).bind fun p => (g p.2).bind fun q => (rng2 p.1 q.1).bind fun ds => some (ds, q.2)
section
variable {ι : Type} {Xf : ι → Cx} {P : Program} {w : World} {K : PySem.W.Frag} {mg : Str → Option Value} {base : Heap} {n : Nat} [F : Fam Xf P w K mg base n]
variable {m m1 m2 m3 : List Ty} {pos p p2 tpos : Pos} {a b c tg : Expr} {elts : List Expr} {kk : Nat} {f g h : Ef}
include F
theorem pi_seq (ha : PD Xf K m a .s f m1) : PIt Xf K false m tg a (iSeq f) m1 := by
  obtain ⟨ta, pa, da⟩ := ha.ex
  refine ⟨_, fun i => PI.or (by have := pi_list (tg := tg) (pa i); rw [F.kk i] at this; exact this) (by have := pi_tup (tg := tg) (pa i); rw [F.kk i] at this; exact this), fun {G H σ e A ds e' R} st hf k => ?_⟩
  unfold iSeq at hf
  obtain ⟨⟨d1, e1⟩, hf1, hf⟩ := oBs hf
  obtain ⟨ds1, hf2, hf⟩ := oBs hf
  cases hf
  cases d1 with
  | list xs =>
    cases hf2
    refine .inl (da st hf1 fun G1 H1 v1 A1 B1 s1 st1 o1 nd1 => ?_)
    cases o1 with
    | s q1 =>
      obtain ⟨a, vs, rfl, r1, z1, qq⟩ := dq_lst q1
      exact ⟨a, rfl, ⟨vs, .inl (same_rd st1.sub r1)⟩, k _ _ _ _ s1 st1 (walkD_list r1 qq).d (by rw [← qq.1]; exact z1)⟩
  | tuple xs =>
    cases hf2
    refine .inr (da st hf1 fun G1 H1 v1 A1 B1 s1 st1 o1 nd1 => ?_)
    cases o1 with
    | s q1 =>
      obtain ⟨a, vs, rfl, r1, z1, qq⟩ := dq_tup q1
      exact ⟨a, rfl, ⟨vs, same_seqT st1.sub r1⟩, k _ _ _ _ s1 st1 (walkD_tup r1 qq).d (by rw [← qq.1]; exact z1)⟩
  | _ => cases hf2
theorem pi_r1 (hm : mg "range" = none) (ha : PD Xf K m a .s f m1) (hg : ∀ i, Gl (Xf i) "range" := by intro _; rfl) (hs : ∀ i, starEach [a] (Xf i).env = [(false, eval a (Xf i).env)] := by intro _; rfl) : PIt Xf K false m tg (.Call (.Name "range" p) [a] [] pos) (iR1 f) m1 := by
  obtain ⟨ta, pa, da⟩ := ha.ex
  refine ⟨_, fun i => pi_range1 (hg i) (by rw [F.mg_ i]; exact hm) (pa_cons (pa i) pa_nil (hs i)) (hs i), fun {G H σ e A ds e' R} st hf k => ?_⟩
  unfold iR1 at hf
  obtain ⟨⟨d1, e1⟩, hf1, hf⟩ := oBs hf
  obtain ⟨ds1, hf2, hf⟩ := oBs hf
  cases hf
  refine da st hf1 fun G1 H1 v1 A1 B1 s1 st1 o1 nd1 => ?_
  cases o1 with
  | s q1 =>
    cases d1 with
    | int j =>
      obtain ⟨hz, rfl⟩ := ite_some hf2
      replace hz := And.intro hz.2.1 (And.intro hz.2.2 hz.1)
      obtain rfl := dq_int q1
      exact ⟨j, rfl, hz.1, hz.2.1, k _ _ _ _ s1 st1 walkD_range.d (by rw [rngD_len]; exact hz.2.2)⟩
    | _ => cases hf2
theorem pi_en (hm : mg "enumerate" = none) (ha : PD Xf K m a .s f m1) (hg : ∀ i, Gl (Xf i) "enumerate" := by intro _; rfl) (hs : ∀ i, starEach [a] (Xf i).env = [(false, eval a (Xf i).env)] := by intro _; rfl) : PIt Xf K true m (.Tuple elts kk tpos) (.Call (.Name "enumerate" p) [a] [] pos) (iEn f) m1 := by
  obtain ⟨ta, pa, da⟩ := ha.ex
  refine ⟨_, fun i => PI.or (by have := L2.pi_enum (elts := elts) (kk := kk) (tpos := tpos) (p := p) (pos := pos) (hg i) (by rw [F.mg_ i]; exact hm) (pa_cons (pa i) pa_nil (hs i)) (hs i); rw [F.kk i] at this; exact this)
    (by have := pi_enumT (elts := elts) (kk := kk) (tpos := tpos) (p := p) (pos := pos) (hg i) (by rw [F.mg_ i]; exact hm) (pa_cons (pa i) pa_nil (hs i)) (hs i); rw [F.kk i] at this; exact this), fun {G H σ e A ds e' R} st hf k => ?_⟩
  unfold iEn at hf
  obtain ⟨⟨d1, e1⟩, hf1, hf⟩ := oBs hf
  obtain ⟨ds1, hf2, hf⟩ := oBs hf
  cases hf
  cases d1 with
  | list xs =>
    cases hf2
    refine .inl (da st hf1 fun G1 H1 v1 A1 B1 s1 st1 o1 nd1 => ?_)
    cases o1 with
    | s q1 =>
      obtain ⟨a, vs, rfl, r1, z1, qq⟩ := dq_lst q1
      exact ⟨a, vs, rfl, .inl (same_rd st1.sub r1), k _ _ _ _ s1 st1 (walkD_enumL r1 qq) (by rw [enumD_len, ← qq.1]; exact z1)⟩
  | tuple xs =>
    cases hf2
    refine .inr (da st hf1 fun G1 H1 v1 A1 B1 s1 st1 o1 nd1 => ?_)
    cases o1 with
    | s q1 =>
      obtain ⟨a, vs, rfl, r1, z1, qq⟩ := dq_tup q1
      exact ⟨a, vs, rfl, same_seqT st1.sub r1, k _ _ _ _ s1 st1 (walkD_enumT r1 qq) (by rw [enumD_len, ← qq.1]; exact z1)⟩
  | _ => cases hf2
theorem pi_zp (hm : mg "zip" = none) (ha : PD Xf K m a .s f m1) (hb : PD Xf K m1 b .s g m2) (hg : ∀ i, Gl (Xf i) "zip" := by intro _; rfl) (hs : ∀ i, starEach [a, b] (Xf i).env = (false, eval a (Xf i).env) :: starEach [b] (Xf i).env := by intro _; rfl) (hs2 : ∀ i, starEach [b] (Xf i).env = (false, eval b (Xf i).env) :: starEach [] (Xf i).env := by intro _; rfl)
    (hpl : ∀ i, (backTo pos (starEach [b] (Xf i).env)).any (·.1) = false := by intro _; rfl) : PIt Xf K true m (.Tuple elts kk tpos) (.Call (.Name "zip" p) [a, b] [] pos) (iZp f g) m2 := by
  obtain ⟨ta, pa, da⟩ := ha.ex
  obtain ⟨tb, pb, db⟩ := hb.ex
  refine ⟨RZ.iZipA K (tCons ta (tCons tb tNil)), fun i => (by have := RZ.pi_zipA (elts := elts) (kk := kk) (tpos := tpos) (p := p) (pos := pos) (hg i) (by rw [F.mg_ i]; exact hm) (pa_cons (pa i) (pa_cons (pb i) pa_nil (hs2 i)) (hs i)) (hs i) (hpl i); rw [F.kk i] at this; exact this), fun {G H σ e A ds e' R} st hf k => ?_⟩
  unfold iZp at hf
  obtain ⟨⟨d1, e1⟩, hf1, hf⟩ := oBs hf
  obtain ⟨⟨d2, e2⟩, hf2, hf⟩ := oBs hf
  obtain ⟨ds1, hf3, hf⟩ := oBs hf
  cases hf
  refine da st hf1 fun G1 H1 v1 A1 B1 s1 st1 o1 nd1 => ?_
  cases o1 with
  | s q1 =>
    refine db st1 hf2 fun G2 H2 v2 A2 B2 s2 st2 o2 nd2 => ?_
    cases o2 with
    | s q2 =>
      have q1' := q1.mono s2.sg
      have hf3 : zipS d1 d2 = some ds := hf3
      unfold zipS at hf3
      split at hf3
      · cases hf3
        obtain ⟨a, xs, rfl, r1, z1, w1⟩ := dq_lst q1'
        obtain ⟨b, ys, rfl, r2, z2, w2⟩ := dq_lst q2
        refine ⟨a, b, xs, ys, rfl, .inl ⟨.inl (same_rd st2.sub r1), .inl (same_rd st2.sub r2), k _ _ _ _ (s1.seq0 s2) st2 (walkD_zipL r1 w1 r2 w2) ?_⟩⟩
        rw [zipD_len]; have := w1.1; omega
      · cases hf3
        obtain ⟨a, xs, rfl, r1, z1, w1⟩ := dq_tup q1'
        obtain ⟨b, ys, rfl, r2, z2, w2⟩ := dq_tup q2
        refine ⟨a, b, xs, ys, rfl, .inr ⟨same_seqT st2.sub r1, same_seqT st2.sub r2, k _ _ _ _ (s1.seq0 s2) st2 (walkD_zipT r1 w1 r2 w2) ?_⟩⟩
        rw [zipD_len]; have := w1.1; omega
      · cases hf3
end
end DL
namespace DL
open PySem L2 PySem.Spec
abbrev Gf := PyData → En → Option En
abbrev Gsf := List PyData → En → Option En
def DG (K : PySem.W.Frag) (wk : Bool) (m : List Ty) (g : TG) (sl : List Nat) (gf : Gf) (m' : List Ty) : Prop :=
  ∀ {G H : Hp} {σ : St} {e : En} {A : List Addr} {x : V} {d : PyData} {e' : En} {Q : St → Hp → Prop}, Stt K m G H σ e A → DqW wk K G x d → gf d e = some e' →
    (∀ (G' H' : Hp) (σ' : St) (A' : List Addr), Step A G H A' G' H' → Stt K m' G' H' σ' e' A' → (∀ j, j ∉ sl → σ'[j]? = σ[j]?) → σ'.length = σ.length → Q σ' H') → g x σ H Q
def DGs (K : PySem.W.Frag) (m : List Ty) (g : TGs) (sl : List Nat) (gf : Gsf) (m' : List Ty) : Prop :=
  ∀ {G H : Hp} {σ : St} {e : En} {A : List Addr} {xs : List V} {ds : List PyData} {e' : En} {Q : St → Hp → Prop}, Stt K m G H σ e A → DqA K G xs ds → gf ds e = some e' →
    (∀ (G' H' : Hp) (σ' : St) (A' : List Addr), Step A G H A' G' H' → Stt K m' G' H' σ' e' A' → (∀ j, j ∉ sl → σ'[j]? = σ[j]?) → σ'.length = σ.length → Q σ' H') → g xs σ H Q
structure PGD {ι : Type} (Xf : ι → Cx) (K : PySem.W.Frag) (wk : Bool) (m : List Ty) (tg : Expr) (sl : List Nat) (gf : Gf) (m' : List Ty) : Prop where
  ex : ∃ g : TG, (∀ i, PG (Xf i) tg g) ∧ DG K wk m g sl gf m'
structure PGDs {ι : Type} (Xf : ι → Cx) (K : PySem.W.Frag) (m : List Ty) (tgs : List Expr) (sl : List Nat) (gf : Gsf) (m' : List Ty) : Prop where
  ex : ∃ g : TGs, (∀ i, PGs (Xf i) tgs g) ∧ DGs K m g sl gf m'
def gNm (j : Nat) : Gf := fun d e => some (e.set j d)
def gsNil : Gsf := fun ds e => match ds with | [] => some e | _ => none
def gsCons (g : Gf) (r : Gsf) : Gsf := fun ds e => match ds with | d :: ds => (g d e).bind fun e' => r ds e' | [] => none
def gTp (k : Nat) (r : Gsf) : Gf := fun d e => match d with | .tuple ds => if ds.length = k then r ds e else none | _ => none
section
variable {K : PySem.W.Frag} {G H : Hp}
theorem stt_set {m : List Ty} {σ : St} {e : En} {A Av : List Addr} {j : Nat} {t : Ty} {d : PyData} {v : V} (st : Stt K m G H σ e A) (hj : j < m.length) (o : Own K G H t d (some v) Av) (nd : (Av ++ A).Nodup) :
    ∃ A', Stt K (m.set j t) G H (σ.set j (some v)) (e.set j d) A' ∧ ∀ a ∈ A', a ∈ Av ++ A := by
  obtain ⟨A0, h0, B, hp⟩ := ownA_hide st.own j
  obtain ⟨A', o', p'⟩ := ownA_put h0 (by rw [List.getElem?_set_self hj]) o
  rw [List.set_set] at o'
  have inA : ∀ a ∈ A0, a ∈ A := fun a h => hp.mem_iff.mpr (List.mem_append_right _ h)
  have n := List.nodup_append.mp nd
  have nA := List.nodup_append.mp (hp.nodup_iff.mp n.2.1)
  refine ⟨A', ⟨o', p'.nodup_iff.mpr (List.nodup_append.mpr ⟨n.1, nA.2.1, fun a ha b hb z => n.2.2 a ha b (inA b hb) z⟩), st.sub⟩, fun a ha => ?_⟩
  rcases List.mem_append.mp (p'.mem_iff.mp ha) with z | z
  · exact List.mem_append_left _ z
  · exact List.mem_append_right _ (inA a z)
end
section
variable {ι : Type} {Xf : ι → Cx} {P : Program} {w : World} {K : PySem.W.Frag} {mg : Str → Option Value} {base : Heap} {n : Nat} [F : Fam Xf P w K mg base n]
variable {m m1 m2 m3 : List Ty} {pos p p2 tpos : Pos} {a b c tg : Expr} {tgs : List Expr} {elts : List Expr} {kk : Nat} {sl sl2 : List Nat} {gf : Gf} {gs : Gsf}
include F in
theorem pg_nm (j : Nat) {x : Str} (hj : j < m.length := by first | decide | rfl | simp) (hi : ∀ i, (Xf i).N[j]? = some x := by intro _; rfl) (hx : ∀ i, Loc (Xf i).env.scope x := by first | (intro _; exact Or.inl rfl) | (intro _; exact Or.inr rfl))
    (hf : ∀ i, (Xf i).fn x = true ∨ (Xf i).env.scope.names.lookup x = some .local := by first | (intro _; exact Or.inl rfl) | (intro _; exact Or.inr rfl)) : PGD Xf K false m (.Name x pos) [j] (gNm j) (m.set j .s) := by
  refine ⟨gName j, fun i => pg_name (F.nd i) (hi i) (hx i) (hf i), fun {G H σ e A x d e' Q} st q hf k => ?_⟩
  cases hf
  obtain ⟨A', st', hA⟩ := stt_set st hj (.s q.strong) (Av := []) st.nd
  exact k G H _ A' ⟨Same.refl G, fun a o h _ => h, fun a ha => .inl (hA a ha), fun a h1 ⟨o, h2⟩ => by rw [h1] at h2; cases h2⟩ st' (fun i hi => by rw [List.getElem?_set_ne]; intro z; exact hi (by simp [z])) (by simp)
theorem pgs_nl : PGDs Xf K m [] [] gsNil m := by
  refine ⟨gNil, fun i => pgs_nil, fun {G H σ e A xs ds e' Q} st q hf k => ?_⟩
  unfold gsNil at hf
  cases ds with
  | nil =>
    cases hf
    exact ⟨List.length_eq_zero_iff.mp q.1, k G H σ A Step.refl st (fun _ _ => rfl) rfl⟩
  | cons _ _ => cases hf
theorem pgs_cn (h1 : PGD Xf K false m a sl gf m1) (h2 : PGDs Xf K m1 tgs sl2 gs m2) (hs : ∀ i, (assignEach (a :: tgs) (Xf i).env).map (·.snd) = assign a (Xf i).env :: (assignEach tgs (Xf i).env).map (·.snd) := by intro _; rfl) : PGDs Xf K m (a :: tgs) (sl ++ sl2) (gsCons gf gs) m2 := by
  obtain ⟨g1, p1, d1⟩ := h1.ex
  obtain ⟨g2, p2, d2⟩ := h2.ex
  refine ⟨gCons g1 g2, fun i => pgs_cons (p1 i) (p2 i) (hs i), fun {G H σ e A xs ds e' Q} st q hf k => ?_⟩
  cases ds with
  | nil => cases hf
  | cons d ds =>
    obtain ⟨e1, hf1, hf⟩ := oBs (show (gf d e).bind _ = _ from hf)
    cases xs with
    | nil => have := q.1; simp at this
    | cons v vs =>
      refine ⟨v, vs, rfl, d1 st (.inl q.head) hf1 fun G1 H1 σ1 A1 s1 st1 k1 l1 => d2 st1 (q.tail.mono s1.sg) hf fun G2 H2 σ2 A2 s2 st2 k2 l2 => k _ _ _ _ (s1.seq0 s2) st2 (fun j hj => ?_) (l2.trans l1)⟩
      rw [k2 j (fun z => hj (List.mem_append_right _ z)), k1 j (fun z => hj (List.mem_append_left _ z))]
include F in
theorem pg_tp {wk : Bool} {k : Nat} (h : PGDs Xf K m elts sl gs m1) (hk : elts.length = k := by rfl) {kk : Nat} (hpg : ∀ i {t : TGs}, PGs (Xf i) elts t → PG (Xf i) (.Tuple elts kk tpos) (gTup (Xf i).K k t) := by intro i t h; exact pg_tup (by rfl) h) : PGD Xf K wk m (.Tuple elts kk tpos) sl (gTp k gs) m1 := by
  obtain ⟨g, p, d⟩ := h.ex
  refine ⟨gTup K k g, fun i => by have := hpg i (p i); rw [F.kk i] at this; exact this, fun {G H σ e A x dd e' Q} st q hf kont => ?_⟩
  cases dd with
  | tuple ds =>
    have hf : (if ds.length = k then gs ds e else none) = some e' := hf
    split at hf
    · rename_i hl
      obtain ⟨a, xs, rfl, r1, qq⟩ := dqW_tup q
      exact ⟨a, xs, rfl, same_seqT st.sub r1, by rw [qq.1]; exact hl, d st qq hf kont⟩
    · cases hf
  | _ => cases hf
end
structure BI (ι : Type) where
  i : ι
  s : Shared
  H : Hp
  C : Addr
  cl : List (Str × Addr)
  fp : List Addr
def blkF {ι : Type} (Xf : ι → Cx) (scope : Scope) : BI ι → Cx := fun b => (Xf b.i).blk b.s b.H scope (compEnvC scope b.cl b.C (Xf b.i).env) b.fp
instance {ι : Type} {Xf : ι → Cx} {P : Program} {w : World} {K : PySem.W.Frag} {mg : Str → Option Value} {base : Heap} {n : Nat} [F : Fam Xf P w K mg base n] {scope : Scope} : Fam (blkF Xf scope) P w K mg base n :=
  ⟨fun b => F.prog b.i, fun b => F.w_ b.i, fun b => F.kk b.i, fun b => F.mg_ b.i, fun b => F.base_ b.i, fun b => F.room b.i, fun b => F.nd b.i⟩
instance {ι : Type} {Xf : ι → Cx} [F : FamG Xf] {scope : Scope} : FamG (blkF Xf scope) := ⟨fun b => F.gd b.i, fun b => F.calm b.i, fun b => F.hd b.i⟩
def hideM (m : List Ty) : List Nat → List Ty
  | [] => m
  | v :: vs => (hideM m vs).set v .u
def restE (e : En) (e' : En) : List Nat → En
  | [] => e'
  | v :: vs => restE e (e'.set v (e.getD v .none)) vs
def usB (m : List Ty) : List Nat → Bool
  | [] => true
  | v :: vs => (match m[v]? with | some .u => true | some .s => true | _ => false) && decide (v ∉ vs) && usB m vs
section
variable {K : PySem.W.Frag} {G H : Hp}
theorem ownA_set0 {ts : List Ty} {ds : List PyData} {vs : List (Option V)} {A : List Addr} (h : OwnA K G H ts ds vs A) {j : Nat} (hj : ts[j]? = some .u ∨ ts[j]? = some .s) {t : Ty} {d : PyData} {v : Option V} (o : Own K G H t d v []) :
    OwnA K G H (ts.set j t) (ds.set j d) (vs.set j v) A := by
  induction ts generalizing ds vs A j with
  | nil => cases h; simpa using OwnA.nil
  | cons t0 ts ih =>
    cases h with
    | @cons _ _ d0 ds v0 vs A B h1 h2 =>
      cases j with
      | zero =>
        have hA : A = [] := by
          rcases hj with hj | hj <;> (simp at hj; subst hj; cases h1; rfl)
        subst hA
        simpa using OwnA.cons o h2
      | succ j => simpa using OwnA.cons h1 (ih h2 (by simpa using hj))
theorem hideM_get {m : List Ty} {j : Nat} : ∀ {vs : List Nat}, j ∉ vs → (hideM m vs)[j]? = m[j]?
  | [], _ => rfl
  | v :: vs, h => by
    unfold hideM
    rw [List.getElem?_set_ne (fun z => h (by simp [z])), hideM_get fun z => h (List.mem_cons_of_mem _ z)]
theorem us_cons {m : List Ty} {v : Nat} {vs : List Nat} (h : usB m (v :: vs) = true) : (m[v]? = some .u ∨ m[v]? = some .s) ∧ v ∉ vs ∧ usB m vs = true := by
  unfold usB at h
  simp only [Bool.and_eq_true, decide_eq_true_eq] at h
  refine ⟨?_, h.1.2, h.2⟩
  have h1 := h.1.1
  split at h1 <;> simp_all
theorem wipeA {m : List Ty} {e : En} {σ : St} {A : List Addr} (h : OwnA K G H m e σ A) : ∀ {vs : List Nat}, usB m vs = true → OwnA K G H (hideM m vs) e (wipe σ vs) A
  | [], _ => h
  | v :: vs, us => by
    obtain ⟨h1, h2, h3⟩ := us_cons us
    have ih := wipeA h h3
    unfold hideM wipe
    have hv : (hideM m vs)[v]? = some .u ∨ (hideM m vs)[v]? = some .s := by rw [hideM_get h2]; exact h1
    have hl := ownA_len ih
    have hlt : v < e.length := by
      have : v < (hideM m vs).length := by rcases hv with z | z <;> exact (List.getElem?_eq_some_iff.mp z).1
      omega
    have := ownA_set0 (t := .u) (d := e[v]) (v := none) ih hv (.u _ _)
    rw [set_id (List.getElem?_eq_getElem hlt)] at this
    exact this
theorem unwipeA {m : List Ty} {e0 : En} {σ : St} {G0 : Hp} {A0 : List Addr} {H0 : Hp} (h0 : OwnA K G0 H0 m e0 σ A0) (sg : Same G0 G) : ∀ {vs : List Nat} {e' : En} {A : List Addr}, usB m vs = true → OwnA K G H (hideM m vs) e' (wipe σ vs) A → OwnA K G H m (restE e0 e' vs) σ A
  | [], _, _, _, h => h
  | v :: vs, e', A, us, h => by
    obtain ⟨h1, h2, h3⟩ := us_cons us
    unfold hideM wipe at h
    unfold restE
    have hv : (hideM m vs)[v]? = m[v]? := hideM_get h2
    obtain ⟨t, ht⟩ : ∃ t, m[v]? = some t := by rcases h1 with z | z <;> exact ⟨_, z⟩
    obtain ⟨d, x, Aj, B0, k1, k2, k3, _, _⟩ := ownA_take h0 ht
    have hA : Aj = [] := by
      rcases h1 with z | z <;> (rw [ht] at z; cases z; cases k3; rfl)
    subst hA
    have k3' : Own K G H t d x [] := by
      rcases h1 with z | z
      · rw [ht] at z; cases z; exact .u _ _
      · rw [ht] at z; cases z
        cases k3 with
        | s q => exact .s (q.mono sg)
    have hlv : v < (hideM m vs).length := by rw [← hv] at ht; exact (List.getElem?_eq_some_iff.mp ht).1
    have key := ownA_set0 h (j := v) (.inl (by simp [hlv])) k3'
    rw [List.set_set, set_id (by rw [hv]; exact ht), List.set_set] at key
    have ex : (wipe σ vs).set v x = wipe σ vs := by
      apply set_id
      rw [wipe_out h2]; exact k2
    rw [ex] at key
    have ed : e0.getD v .none = d := by rw [List.getD_eq_getElem?_getD, k1]; rfl
    rw [ed]
    exact unwipeA h0 sg h3 key
theorem ownA_snoc {ts : List Ty} {ds : List PyData} {vs : List (Option V)} {A : List Addr} (h : OwnA K G H ts ds vs A) {t : Ty} {d : PyData} {v : Option V} {B : List Addr} (o : Own K G H t d v B) : OwnA K G H (ts ++ [t]) (ds ++ [d]) (vs ++ [v]) (A ++ B) := by
  induction ts generalizing ds vs A with
  | nil => cases h; simpa using OwnA.cons o .nil
  | cons t0 ts ih =>
    cases h with
    | cons h1 h2 => rw [List.append_assoc]; exact .cons h1 (ih h2)
theorem wipe_in {σ : St} {j : Nat} : ∀ {vs : List Nat}, j ∈ vs → j < σ.length → (wipe σ vs)[j]? = some none
  | v :: vs, h, hl => by
    unfold wipe
    by_cases q : v = j
    · subst q; rw [List.getElem?_set_self (by rw [wipe_length]; exact hl)]
    · rw [List.getElem?_set_ne q]
      rcases List.mem_cons.mp h with z | z
      · exact absurd z.symm q
      · exact wipe_in z hl
theorem wipe_eq {σ σ2 : St} {vs sl : List Nat} (hs : ∀ j ∈ sl, j ∈ vs) (h : ∀ j, j ∉ sl → σ2[j]? = (wipe σ vs)[j]?) (hl : σ2.length = (wipe σ vs).length) : wipe σ2 vs = wipe σ vs := by
  apply List.ext_getElem?
  intro j
  rw [wipe_length] at hl
  by_cases hv : j ∈ vs
  · by_cases hj : j < σ.length
    · rw [wipe_in hv (by omega), wipe_in hv hj]
    · rw [List.getElem?_eq_none (by rw [wipe_length]; omega), List.getElem?_eq_none (by rw [wipe_length]; omega)]
  · rw [wipe_out hv, h j (fun z => hv (hs j z))]
end
def lcL (vs : List Nat) (gf : Gf) (tf : Bf) (ef : Ef) : List PyData → En → Option (List PyData × En)
  | [], e => some ([], e)
  | d :: ds, e => (gf d e).bind fun e1 => (tf e1).bind fun p => if p.1 = true then (ef p.2).bind fun q => (lcL vs gf tf ef ds (restE e q.2 vs)).bind fun r => some (q.1 :: r.1, r.2) else lcL vs gf tf ef ds (restE e p.2 vs)
def eLc (it : Lf) (vs : List Nat) (gf : Gf) (tf : Bf) (ef : Ef) : Ef := fun e => (it e).bind fun p => (lcL vs gf tf ef p.1 p.2).bind fun q => some (.list q.1, restE p.2 q.2 vs)
def bYes : Bf := fun e => some (true, e)
structure PTsD {ι : Type} (Xf : ι → Cx) (K : PySem.W.Frag) (m : List Ty) (ifs : List Expr) (f : Bf) : Prop where
  ex : ∃ tt : TT, (∀ i, PTs (Xf i) ifs tt) ∧ DT K m tt f m
theorem pts_no {ι : Type} {Xf : ι → Cx} {K : PySem.W.Frag} {m : List Ty} : PTsD Xf K m [] bYes := ⟨tYes, fun i => pts_nil, fun st hf k => by cases hf; exact k _ _ _ Step.refl st⟩
theorem pts_if {ι : Type} {Xf : ι → Cx} {K : PySem.W.Frag} {m : List Ty} {c : Expr} {f : Bf} (h : PB Xf K m c f m) : PTsD Xf K m [c] f := by
  obtain ⟨t, p, d⟩ := h.ex
  exact ⟨t, fun i => pts_one (p i), d⟩
structure LcI (K : PySem.W.Frag) (mh : List Ty) (ty : Ty) (A1 : List Addr) (G1 H1 : Hp) (D : Addr) (ws : St) (Gc Hc : Hp) (e : En) (A Aa : List Addr) (acc : List V) (da : List PyData) : Prop where
  step : Step A1 G1 H1 (D :: (Aa ++ A)) Gc Hc
  st : Stt K mh Gc Hc ws e A
  atD : Hc D = some (.lst acc)
  gD : Gc D = none
  own : OwnA K Gc Hc (List.replicate da.length ty) da (acc.map some) Aa
  nd : (D :: (Aa ++ A)).Nodup
section
variable {K : PySem.W.Frag} {mh m2 : List Ty} {ty : Ty} {A1 : List Addr} {G1 H1 : Hp} {D : Addr} {ws : St}
theorem LcI.move {Gc Hc : Hp} {e : En} {A Aa : List Addr} {acc : List V} {da : List PyData} (I : LcI K mh ty A1 G1 H1 D ws Gc Hc e A Aa acc da) {B : List Addr} {G2 H2 : Hp} (s : Step A Gc Hc B G2 H2) (ndB : B.Nodup) :
    Step A1 G1 H1 (D :: (Aa ++ B)) G2 H2 ∧ (D :: (Aa ++ B)).Nodup ∧ H2 D = some (.lst acc) ∧ G2 D = none ∧ OwnA K G2 H2 (List.replicate da.length ty) da (acc.map some) Aa := by
  have o1 : ∀ a ∈ D :: Aa, Gc a = none ∧ ∃ o, Hc a = some o := fun a ha => by
    rcases List.mem_cons.mp ha with rfl | ha
    · exact ⟨I.gD, _, I.atD⟩
    · exact ownA_at I.own a ha
  obtain ⟨s3, nd3, hg, hh⟩ := Step.seq (Av := D :: Aa) I.step o1 I.nd s ndB
  exact ⟨s3, nd3, by rw [hh D (List.mem_cons_self ..)]; exact I.atD, hg D (List.mem_cons_self ..), ownA_fr I.own s.sg (fun a ha => hg a (List.mem_cons_of_mem _ ha)) fun a ha => hh a (List.mem_cons_of_mem _ ha)⟩
end
section
variable {ι : Type} {Xf : ι → Cx} {P : Program} {w : World} {K : PySem.W.Frag} {mg : Str → Option Value} {base : Heap} {n : Nat} [F : Fam Xf P w K mg base n]
variable {m m1 m2 m3 : List Ty} {pos p p2 tpos : Pos} {elt iter tg : Expr} {ifs : List Expr} {scope : Scope} {own : List (Str × Nat)} {sl : List Nat} {gf : Gf} {it : Lf} {tf : Bf} {ef : Ef} {ty : Ty}
theorem DE.lc {wk : Bool} {wi : TI} {g : TG} {tt : TT} {te : TE} {vs : List Nat} (hi : DI K wk m wi it m1) (hg : DG K wk (hideM m1 vs) g sl gf m2) (ht : DT K m2 tt tf m2) (he : DE K m2 te ty ef m2) (us : usB m1 vs = true) (hs : ∀ j ∈ sl, j ∈ vs) (le : LeM m2 (hideM m1 vs)) :
    DE K m (tLc wi g tt te vs) (.l ty) (eLc it vs gf tf ef) m1 := by
  intro G H σ e A d e' Q st hf k
  unfold eLc at hf
  obtain ⟨⟨ds, e1⟩, hf1, hf⟩ := oBs hf
  obtain ⟨⟨rs, ef1⟩, hf2, hf⟩ := oBs hf
  cases hf
  refine hi st hf1 fun G1 H1 A1 J s1 st1 wk hz => ?_
  intro D hD
  have own1 := wipeA st1.own us
  have st1' : Stt K (hideM m1 vs) G1 H1 (wipe σ vs) e1 A1 := ⟨own1, st1.nd, st1.sub⟩
  obtain ⟨s2, st2, nd2, gD⟩ := new_o (o := .lst []) (B := []) st1' hD
  -- the word
  let T := fun (i : Nat) (Hc : Hp) => ∃ Gc ec A' Aa acc da r, LcI K (hideM m1 vs) ty A1 G1 H1 D (wipe σ vs) Gc Hc ec A' Aa acc da ∧ da.length ≤ i ∧ lcL vs gf tf ef (ds.drop i) ec = some (r, ef1) ∧ rs = da ++ r
  refine ⟨fun i mm Hc => mm = ds.length - i ∧ i ≤ ds.length ∧ T i Hc, ⟨ds.length, by omega, Nat.zero_le _, G1, e1, A1, [], [], [], rs, ⟨s2, st2, upd_same, gD, .nil, nd2⟩, Nat.le_refl _, hf2, rfl⟩, ?_⟩
  rintro i mm Hc ⟨rfl, hle, Gc, ec, A', Aa, acc, da, r, I, hda, hl, hrs⟩
  have sub1 : Same G1 Hc := I.step.sg.trans I.st.sub
  by_cases hi : i < ds.length
  · refine .inr ⟨wk.goes i Hc hi sub1, fun Hn => i < ds.length ∧ T (i + 1) Hn, fun Hn hn => ⟨ds.length - (i + 1), by omega, rfl, by omega, hn.2⟩, fun x Hy hy => ?_⟩
    obtain ⟨Gy, sy, sty, sgy, qy⟩ := wk.yields hi I.step.sg I.st hy
    have hd : ds.drop i = ds[i] :: ds.drop (i + 1) := List.drop_eq_getElem_cons hi
    rw [hd] at hl
    unfold lcL at hl
    obtain ⟨e2, hl1, hl⟩ := oBs hl
    obtain ⟨⟨b, e3⟩, hl2, hl⟩ := oBs hl
    refine hg sty (qy _ (List.getElem?_eq_getElem hi)) hl1 fun G3 H3 σ3 A3 s3 st3 k3 l3 => ⟨wipe_eq hs k3 l3, ?_⟩
    have wσ := wipe_eq hs k3 l3
    have usr : usB (hideM m1 vs) vs = true → True := fun _ => trivial
    refine ht st3 hl2 fun G4 H4 A4 s4 st4 => ?_
    have s34 := (sy.seq0 s3).seq0 s4
    -- the turn's end: the mask and the slots of the next turn
    have next : ∀ (G5 H5 : Hp) (A5 : List Addr) (e5 : En), Stt K m2 G5 H5 σ3 e5 A5 → ∃ G6 A6, Step A5 G5 H5 A6 G6 H5 ∧ Stt K (hideM m1 vs) G6 H5 (wipe σ vs) (restE ec e5 vs) A6 := fun G5 H5 A5 e5 st5 => by
      obtain ⟨G6, A6, s6, st6⟩ := stt_le le st5
      refine ⟨G6, A6, s6, ⟨?_, st6.nd, st6.sub⟩⟩
      have hidem : ∀ (us : List Nat) (e' : En) (σ' : St) {A : List Addr} {H : Hp} {G : Hp} {mm : List Ty}, OwnA K G H mm e' σ' A → (∀ v ∈ us, mm[v]? = some .u) → OwnA K G H mm (restE ec e' us) (wipe σ' us) A := by
        intro us
        induction us with
        | nil => intro e' σ' A H G mm h _; exact h
        | cons v us ih =>
          intro e' σ' A H G mm h hu
          unfold restE wipe
          have hv := hu v (List.mem_cons_self ..)
          have a := ownA_set0 (t := .u) (d := ec.getD v .none) (v := none) h (.inl hv) (.u _ _)
          rw [set_id hv] at a
          have b := ih _ _ a fun x hx => hu x (List.mem_cons_of_mem _ hx)
          -- wiping v first or last
          have c : wipe (σ'.set v none) us = (wipe σ' us).set v none := by
            clear ih a b hv hu h
            induction us with
            | nil => rfl
            | cons u us ihu =>
              unfold wipe
              rw [ihu]
              by_cases q : u = v
              · subst q; rfl
              · rw [List.set_comm _ _ (fun z => q z.symm)]
          rw [c] at b; exact b
      have hu : ∀ v ∈ vs, (hideM m1 vs)[v]? = some .u := by
        have aux : ∀ us : List Nat, usB m1 us = true → ∀ v ∈ us, (hideM m1 us)[v]? = some .u := by
          intro us
          induction us with
          | nil => intro _ v h; cases h
          | cons u us ih =>
            intro hus v hv
            obtain ⟨h1, h2, h3⟩ := us_cons hus
            unfold hideM
            by_cases q : u = v
            · subst q
              have : u < (hideM m1 us).length := by
                rw [← hideM_get (m := m1) h2] at h1
                rcases h1 with z | z <;> exact (List.getElem?_eq_some_iff.mp z).1
              simp [this]
            · rw [List.getElem?_set_ne q]
              rcases List.mem_cons.mp hv with z | z
              · exact absurd z.symm q
              · exact ih h3 v z
        exact aux vs us
      have := hidem vs e5 σ3 st6.own hu
      rw [wσ] at this
      exact this
    cases b with
    | true =>
      rw [if_pos rfl] at hl ⊢
      obtain ⟨⟨dy, e5⟩, hl3, hl⟩ := oBs hl
      obtain ⟨⟨r', ef'⟩, hl4, hl⟩ := oBs hl
      cases hl
      refine he st4 hl3 fun G5 H5 y Ay A5 s5 st5 o5 nd5 => ?_
      obtain ⟨G6, A6, s6, st6⟩ := next G5 H5 A5 e5 st5
      obtain ⟨s56, nd56, hg6, hh6⟩ := s5.seq (own_at o5) nd5 s6 st6.nd
      have o6 : Own K G6 H5 ty dy (some y) Ay := own_fr o5 s6.sg hg6 fun a ha => rfl
      obtain ⟨s7, nd7, atD, gD7, own7⟩ := I.move (s34.seq0 s56) nd56
      have hacc : acc.length = da.length := by have := (ownA_len I.own).2; simpa using this
      have hz' : acc.length < sizeLine := by
        omega
      refine ⟨acc, atD, hz', hi, G6, restE ec e5 vs, A6, Aa ++ Ay, acc ++ [y], da ++ [dy], r', ?_, by simp; omega, hl4, by rw [hrs]; simp⟩
      have nD : ∀ a ∈ Aa ++ (Ay ++ A6), a ≠ D := fun a ha z => (List.nodup_cons.mp nd7).1 (z ▸ ha)
      have frD : ∀ a, a ≠ D → upd H5 D (.lst (acc ++ [y])) a = H5 a := fun a ha => upd_ne ha
      refine ⟨⟨s7.sg, fun a o h ha => ?_, fun a ha => s7.own a (by simpa [List.append_assoc] using ha), s7.gnew⟩, ⟨ownA_fr st6.own (Same.refl _) (fun a ha => (ownA_at st6.own a ha).1) fun a ha => frD a (nD a (by simp [ha])), st6.nd, fun b x hx => ?_⟩, upd_same, gD7, ?_, by simpa [List.append_assoc] using nd7⟩
      · rw [frD a (ne_of_none h hD)]; exact s7.fr a o h ha
      · rw [frD b (ne_of_none hx gD7)]; exact st6.sub b x hx
      · have a1 : OwnA K G6 (upd H5 D (.lst (acc ++ [y]))) (List.replicate da.length ty) da (acc.map some) Aa := ownA_fr own7 (Same.refl _) (fun a ha => (ownA_at own7 a ha).1) fun a ha => frD a (nD a (by simp [ha]))
        have a2 : Own K G6 (upd H5 D (.lst (acc ++ [y]))) ty dy (some y) Ay := own_fr o6 (Same.refl _) hg6 fun a ha => frD a (nD a (by simp [ha]))
        have a3 := ownA_snoc a1 a2
        rw [List.length_append, List.length_singleton, List.replicate_succ', List.map_append]
        exact a3
    | false =>
      rw [if_neg (by simp)] at hl ⊢
      obtain ⟨G6, A6, s6, st6⟩ := next G4 H4 A4 e3 st4
      obtain ⟨s7, nd7, atD, gD7, own7⟩ := I.move (s34.seq0 s6) st6.nd
      exact ⟨hi, G6, restE ec e3 vs, A6, Aa, acc, da, r, ⟨s7, st6, atD, gD7, own7, nd7⟩, by omega, hl, hrs⟩
  · have hie : i = ds.length := by omega
    subst hie
    refine .inl ⟨wk.stops Hc sub1, ?_⟩
    rw [List.drop_length] at hl
    cases hl
    rw [List.append_nil] at hrs
    subst hrs
    have un := unwipeA (e' := ef1) st1.own I.step.sg us I.st.own
    have nd := List.nodup_cons.mp I.nd
    refine k Gc Hc (.ref D) (D :: Aa) A' (s1.seq0 ⟨I.step.sg, I.step.fr, I.step.own, I.step.gnew⟩) ⟨un, I.st.nd, I.st.sub⟩ (.l I.gD I.atD ?_ I.own) I.nd
    have hacc := (ownA_len I.own).2
    rw [List.length_map] at hacc
    omega
include F in
theorem pd_lc [FG : FamG Xf] {wk : Bool} (own : List (Str × Nat)) (hi : PIt Xf K wk m tg iter it m1) (hg : PGD (blkF Xf scope) K wk (hideM m1 (own.map (·.2))) tg sl gf m2) (ht : PTsD (blkF Xf scope) K m2 ifs tf) (he : PD (blkF Xf scope) K m2 elt ty ef m2)
    (ok : ∀ i, BlkOk (Xf i).N (Xf i).env.scope scope own := by intro _; exact blkOk_by (by rfl)) (us : usB m1 (own.map (·.2)) = true := by rfl) (hs : ∀ j ∈ sl, j ∈ own.map (·.2) := by decide) (le : LeM m2 (hideM m1 (own.map (·.2))) := by repeat (first | exact .nil | refine .cons (by first | exact .rfl _ | exact .u _) ?_))
    (hf : ∀ i x, foldedSetIterable iter (Xf i).env x = pure x := by intro _ _; rfl) : PD Xf K m (.ListComp elt [⟨tg, iter, ifs, 0⟩] scope pos) (.l ty) (eLc it (own.map (·.2)) gf tf ef) m1 := by
  obtain ⟨wi, pi, di⟩ := hi.ex
  obtain ⟨g, pg, dg⟩ := hg.ex
  obtain ⟨tt, pt, dt⟩ := ht.ex
  obtain ⟨te, pe, de⟩ := he.ex
  exact ⟨_, fun i => pe_lc (FG.calm i) (F.nd i) (pi i) (ok i) (fun s H C cl fp => pg ⟨i, s, H, C, cl, fp⟩) (fun s H C cl fp => pt ⟨i, s, H, C, cl, fp⟩) (fun s H C cl fp => pe ⟨i, s, H, C, cl, fp⟩) (hf i), DE.lc di dg dt de us hs le⟩
end
end DL
namespace DL
open PySem L2 PySem.Spec
abbrev Gq := En → Option PyData
def DQv (K : PySem.W.Frag) (m : List Ty) (te : TE) (g : Gq) : Prop :=
  ∀ {G H : Hp} {σ : St} {e : En} {A : List Addr} {d : PyData} {Q : VK}, Stt K m G H σ e A → g e = some d → (∀ (H' : Hp) (v : V), Same H H' → Dq K H' v d → Q v H') → te σ H Q
structure PQ {ι : Type} (Xf : ι → Cx) (K : PySem.W.Frag) (m : List Ty) (e : Expr) (g : Gq) : Prop where
  ex : ∃ te : TE, (∀ i, PE (Xf i) e te) ∧ DQv K m te g
def q1 (gg : PyData → Option PyData) (a : Gq) : Gq := fun e => (a e).bind gg
def q2 (gg : PyData → PyData → Option PyData) (a b : Gq) : Gq := fun e => (a e).bind fun x => (b e).bind fun y => gg x y
def qVar (j : Nat) : Gq := fun e => some (e.getD j .none)
def qC (d : PyData) : Gq := fun _ => some d
section
variable {K : PySem.W.Frag} {G H H' : Hp} {m : List Ty} {σ : St} {e : En} {A : List Addr}
theorem stt_grow (st : Stt K m G H σ e A) (s : Same H H') : Step A G H A G H' ∧ Stt K m G H' σ e A :=
  ⟨⟨Same.refl G, fun a o h _ => s a o h, fun a h => .inl h, fun a h1 ⟨o, h2⟩ => by rw [h1] at h2; cases h2⟩,
    ⟨ownA_fr st.own (Same.refl G) (fun a ha => (ownA_at st.own a ha).1) fun a ha => by obtain ⟨o, h⟩ := (ownA_at st.own a ha).2; rw [h, s a o h], st.nd, st.sub.trans s⟩⟩
theorem stt0 (K : PySem.W.Frag) (H : Hp) : Stt K [] H H [] [] [] := ⟨.nil, List.nodup_nil, Same.refl H⟩
theorem own_snap {t : Ty} {d : PyData} {v : Option V} {A : List Addr} (o : Own K G H t d v A) (s : Same G H) (hn : nou t = true) : ∃ x, v = some x ∧ Dq K H x d := own_frz o s (fun _ _ => rfl) hn
theorem D2.q {r : R2} {ty : Ty} {gg : PyData → PyData → Option PyData} (h : D2 K r ty gg) (hn : nou ty = true) {x y : V} {dx dy d : PyData} {Q : VK} (hx : Dq K H x dx) (hy : Dq K H y dy) (hg : gg dx dy = some d) (k : ∀ (H' : Hp) (v : V), Same H H' → Dq K H' v d → Q v H') : r x y H Q :=
  h (stt0 K H) hx hy hg fun G' H' v Av A' s st o _ => by
    obtain ⟨w, hw, q⟩ := own_snap o st.sub hn
    cases hw
    exact k H' v (fun a o ha => s.fr a o ha (by simp)) q
theorem D1.q {r : V → Hp → VK → Prop} {ty : Ty} {gg : PyData → Option PyData} (h : D1 K r ty gg) (hn : nou ty = true) {x : V} {dx d : PyData} {Q : VK} (hx : Dq K H x dx) (hg : gg dx = some d) (k : ∀ (H' : Hp) (v : V), Same H H' → Dq K H' v d → Q v H') : r x H Q :=
  h (stt0 K H) hx hg fun G' H' v Av A' s st o _ => by
    obtain ⟨w, hw, q⟩ := own_snap o st.sub hn
    cases hw
    exact k H' v (fun a o ha => s.fr a o ha (by simp)) q
theorem DQv.bin {ta tb : TE} {r : R2} {ty : Ty} {gg : PyData → PyData → Option PyData} {f g : Gq} (ha : DQv K m ta f) (hb : DQv K m tb g) (hr : D2 K r ty gg) (hn : nou ty = true) : DQv K m (tOp r ta tb) (q2 gg f g) := by
  intro G H σ e A d Q st hf k
  obtain ⟨x, h1, hf⟩ := oBs hf
  obtain ⟨y, h2, hf⟩ := oBs hf
  refine ha st h1 fun H1 v s1 qx => hb (stt_grow st s1).2 h2 fun H2 w s2 qy => hr.q hn (qx.mono s2) qy hf fun H3 z s3 qz => k H3 z ((s1.trans s2).trans s3) qz
end
section
variable {ι : Type} {Xf : ι → Cx} {P : Program} {w : World} {K : PySem.W.Frag} {mg : Str → Option Value} {base : Heap} {n : Nat} [F : Fam Xf P w K mg base n]
variable {m m1 m2 m3 : List Ty} {pos p p2 apos cpos : Pos} {a b c : Expr} {f g h : Gq} {ty t : Ty} {ts : List Ty}
theorem pq_var (j : Nat) {t : Ty} {x : Str} (hm : m[j]? = some t := by rfl) (hn : nou t = true := by rfl) (hN : ∀ i, (Xf i).N[j]? = some x := by intro _; rfl)
    (hv : ∀ i, Vis (Xf i).env.scope x := by first | (intro _; exact Or.inl rfl) | (intro _; exact Or.inr (Or.inl rfl)) | (intro _; exact Or.inr (Or.inr rfl))) (hd : (x == ("__debug__" : Str)) = false := by decide)
    (hcd : (x == ("__classdict__" : Str)) = false := by decide) : PQ Xf K m (.Name x pos) (qVar j) := by
  refine ⟨tVar j, fun i => pe_var (hN i) (hv i) hd hcd, fun {G H σ e A d Q} st hf k => ?_⟩
  obtain ⟨d', v, Aj, A0, h1, h2, h3, _, _⟩ := ownA_take st.own hm
  obtain ⟨x', hx, q⟩ := own_snap h3 st.sub hn
  subst hx
  cases hf
  rw [List.getD_eq_getElem?_getD, h1] at k
  exact ⟨x', h2, k H x' (Same.refl H) q⟩
theorem pq_int {i : Int} {j} : PQ Xf K m (.Constant (.int i) j pos) (qC (.int i)) := ⟨_, fun _ => pe_int, fun {G H σ e A d Q} st hf k => by cases hf; exact k H _ (Same.refl H) (.int i)⟩
theorem pq_nil : PQ Xf K m (.List [] pos) (qC (.list [])) := ⟨_, fun _ => pe_lst pa_nil, fun {G H σ e A d Q} st hf k => by
  cases hf
  refine ⟨Nat.zero_le _, fun p hp => k _ _ (fun b x hx => by rw [upd_ne (ne_of_none hx hp)]; exact hx) (.lst (.inl upd_same) rfl (Nat.zero_le _) fun i v d h _ => by simp at h)⟩⟩
theorem pq_ix {gg : PyData → PyData → Option PyData} (ho : Ix2 Xf K ty gg) (ha : PQ Xf K m a f) (hb : PQ Xf K m b g) (hs : PlainIx b := by exact fun _ _ => rfl) (hn : nou ty = true := by rfl) : PQ Xf K m (.Subscript a b pos) (q2 gg f g) := by
  obtain ⟨r, hr, dr⟩ := ho.ex
  obtain ⟨ta, pa, da⟩ := ha.ex
  obtain ⟨tb, pb, db⟩ := hb.ex
  exact ⟨_, fun i => pe_ix (hr i) (pa i) (pb i) hs, DQv.bin da db dr hn⟩
theorem DQv.un {r : V → Hp → VK → Prop} {ta : TE} {gg : PyData → Option PyData} (da : DQv K m ta f) (dr : D1 K r ty gg) (hn : nou ty = true) : DQv K m (fun σ H Q => ta σ H fun x H1 => r x H1 Q) (q1 gg f) := by
  intro G H σ e A d Q st hf k
  obtain ⟨x, h1, hf⟩ := oBs hf
  exact da st h1 fun H1 v s1 qx => dr.q hn qx hf fun H2 z s2 qz => k H2 z (s1.trans s2) qz
include F in
theorem pq_b1 {x : Str} {id : String} {gg : PyData → Option PyData} (hc : Cl1 Xf K (.builtin id) ty gg) (hm : mg x = none) (hv : bootBuiltins x = some (.builtin id)) (ha : PQ Xf K m a f) (hy : nou ty = true := by rfl) (hg : ∀ i, Gl (Xf i) x := by intro _; rfl)
    (hn : x ≠ "__name__" := by decide) (hdb : (x == ("__debug__" : Str)) = false := by decide) (he : ∀ i, starEach [a] (Xf i).env = (false, eval a (Xf i).env) :: starEach [] (Xf i).env := by intro _; rfl) (hpl : ∀ i, (backTo pos (starEach [] (Xf i).env)).any (·.1) = false := by intro _; rfl) : PQ Xf K m (.Call (.Name x p) [a] [] pos) (q1 gg f) := by
  obtain ⟨r, hr, dr⟩ := hc.ex
  obtain ⟨ta, pa, da⟩ := ha.ex
  exact ⟨_, fun i => pe_callB (hr i) (hg i) (by rw [F.mg_ i]; exact hm) hv (pa_cons (pa i) pa_nil (he i)) hn hdb (he i) (hpl i), DQv.un da dr hy⟩
def scD : PyData → Bool
  | .none | .bool _ | .int _ | .str _ => true
  | _ => false
theorem sc_any {K : PySem.W.Frag} {G H : Hp} {v : V} {d : PyData} (q : Dq K H v d) (h : scD d = true) : Dq K G v d := by
  cases q with
  | non => exact .non
  | bl b => exact .bl b
  | int i => exact .int i
  | str x hx => exact .str x hx
  | lst => cases h
  | tup => cases h
  | dic => cases h
  | dv => cases h
  | ob => cases h
def eQ (g : Gq) : Ef := fun e => (g e).bind fun d => if scD d = true then some (d, e) else none
def bQ (g : Gq) : Bf := fun e => (g e).bind fun d => (gTruth d).map fun b => (b, e)
theorem pd_q (ha : PQ Xf K m a f) : PD Xf K m a .s (eQ f) m := by
  obtain ⟨ta, pa, da⟩ := ha.ex
  refine ⟨ta, pa, fun {G H σ e A d e' Q} st hf k => ?_⟩
  obtain ⟨x, h1, hf⟩ := oBs hf
  obtain ⟨h2, h3⟩ := ite_some hf
  cases h3
  exact da st h1 fun H1 v s1 q => k G H1 v [] A (stt_grow st s1).1 (stt_grow st s1).2 (.s (sc_any q h2)) st.nd
def bQT (g : Gq) : Bf := fun e => (g e).bind fun d => match d with | .bool b => some (b, e) | _ => none
theorem pb_qcmp {op : CmpOp} {gg : PyData → PyData → Option PyData} (ho : Op2 Xf K (compareOp op) .s gg) (ha : PQ Xf K m a f) (hb : PQ Xf K m b g) (hm : behindInMarks op b = false := by first | exact nomark _ | rfl) : PB Xf K m (.Compare a [op] [b] pos) (bQT (q2 gg f g)) m := by
  obtain ⟨r, hr, dr⟩ := ho.ex
  obtain ⟨ta, pa, da⟩ := ha.ex
  obtain ⟨tb, pb, db⟩ := hb.ex
  refine ⟨_, fun i => pt_cmpR (hr i) (pa i) (pb i) hm, fun {G H σ e A b e' Q} st hf k => ?_⟩
  obtain ⟨x, h1, hf⟩ := oBs hf
  refine DQv.bin da db dr rfl st h1 fun H1 v s1 q => ?_
  cases q with
  | bl b1 => cases hf; exact ⟨_, rfl, k _ _ _ (stt_grow st s1).1 (stt_grow st s1).2⟩
  | _ => cases hf
end
def DPv (K : PySem.W.Frag) (m : List Ty) (te : TE) (g : Gq) : Prop :=
  ∀ {G H : Hp} {σ : St} {e : En} {A : List Addr} {d : PyData} {Q : VK}, Stt K m G H σ e A → g e = some d → (∀ (H' : Hp) (v : V), Same H H' → Dq K G v d → Q v H') → te σ H Q
structure PV {ι : Type} (Xf : ι → Cx) (K : PySem.W.Frag) (m : List Ty) (e : Expr) (g : Gq) : Prop where
  ex : ∃ te : TE, (∀ i, PE (Xf i) e te) ∧ DPv K m te g
def qS (g : Gq) : Gq := fun e => (g e).bind fun d => if scD d = true then some d else none
section
variable {ι : Type} {Xf : ι → Cx} {P : Program} {w : World} {K : PySem.W.Frag} {mg : Str → Option Value} {base : Heap} {n : Nat} [F : Fam Xf P w K mg base n]
variable {m m1 m2 m3 : List Ty} {pos p p2 apos cpos : Pos} {a b c : Expr} {f g h : Gq} {ty t : Ty} {ts : List Ty}
end
abbrev Pf := En → PyData → En
def DPl (K : PySem.W.Frag) (m : List Ty) (te : TE) (ty : Ty) (get : Gq) (put : Pf) : Prop :=
  ∀ {G H : Hp} {σ : St} {e : En} {A : List Addr} {d : PyData}, Stt K m G H σ e A → get e = some d → ∃ (a : Addr) (Ad Ar : List Addr), A.Perm (Ad ++ Ar) ∧ Own K G H ty d (some (.ref a)) Ad ∧
    (∀ {Q : VK}, (∀ H', Same H H' → Q (.ref a) H') → te σ H Q) ∧
    ∀ {G' H' : Hp} {d' : PyData} {Ad' : List Addr}, Same G G' → Own K G' H' ty d' (some (.ref a)) Ad' → (∀ b ∈ Ar, H' b = H b ∧ G' b = none) → ∃ A', OwnA K G' H' m (put e d') σ A' ∧ A'.Perm (Ad' ++ Ar)
structure PPl {ι : Type} (Xf : ι → Cx) (K : PySem.W.Frag) (m : List Ty) (e : Expr) (ty : Ty) (get : Gq) (put : Pf) : Prop where
  ex : ∃ te : TE, (∀ i, PE (Xf i) e te) ∧ DPl K m te ty get put
def lstTy : Ty → Bool
  | .l _ => true
  | .r _ => true
  | .d => true
  | .t => true
  | .o _ _ _ => true
  | _ => false
def pVar (j : Nat) : Pf := fun e d => e.set j d
def itemD (d : PyData) (i : PyData) : Option PyData := match d, i with
  | .list ds, .int k => atI ds k
  | _, _ => none
def setD (d : PyData) (i : PyData) (x : PyData) : PyData := match d, i with
  | .list ds, .int k => match ixN ds.length k with
    | some j => .list (ds.set j x)
    | none => d
  | _, _ => d
def gSub1 (g gi : Gq) : Gq := fun e => (g e).bind fun d => (gi e).bind fun i => itemD d i
def pSub1 (g gi : Gq) (pt : Pf) : Pf := fun e x => pt e (setD ((g e).getD .none) ((gi e).getD .none) x)
section
variable {ι : Type} {Xf : ι → Cx} {P : Program} {w : World} {K : PySem.W.Frag} {mg : Str → Option Value} {base : Heap} {n : Nat} [F : Fam Xf P w K mg base n]
variable {m m1 m2 m3 : List Ty} {pos p p2 apos cpos : Pos} {a b c : Expr} {f g gi h : Gq} {pt : Pf} {ty t : Ty} {ts : List Ty}
theorem pp_var (j : Nat) {t : Ty} {x : Str} (hm : m[j]? = some t := by rfl) (hl : lstTy t = true := by rfl) (hN : ∀ i, (Xf i).N[j]? = some x := by intro _; rfl)
    (hv : ∀ i, Vis (Xf i).env.scope x := by first | (intro _; exact Or.inl rfl) | (intro _; exact Or.inr (Or.inl rfl)) | (intro _; exact Or.inr (Or.inr rfl))) (hd : (x == ("__debug__" : Str)) = false := by decide)
    (hcd : (x == ("__classdict__" : Str)) = false := by decide) : PPl Xf K m (.Name x pos) t (qVar j) (pVar j) := by
  refine ⟨tVar j, fun i => pe_var (hN i) (hv i) hd hcd, fun {G H σ e A d} st hf => ?_⟩
  obtain ⟨d', v, Aj, A0, h1, h2, h3, h4, hp⟩ := ownA_take st.own hm
  cases hf
  have ed : e.getD j .none = d' := by rw [List.getD_eq_getElem?_getD, h1]; rfl
  rw [ed]
  have hj : (m.set j .u)[j]? = some .u := by
    have := (List.getElem?_eq_some_iff.mp hm).1
    simp [this]
  obtain ⟨a, rfl⟩ : ∃ a : Addr, v = some (.ref a) := by
    cases h3 with
    | u => cases hl
    | s => cases hl
    | e => cases hl
    | k => cases hl
    | a => cases hl
    | q => cases hl
    | d => exact ⟨_, rfl⟩
    | t => exact ⟨_, rfl⟩
    | o => exact ⟨_, rfl⟩
    | f => cases hl
    | x => cases hl
    | l => exact ⟨_, rfl⟩
    | r => exact ⟨_, rfl⟩
  refine ⟨a, Aj, A0, hp, h3, fun {Q} k => ⟨_, h2, k H (Same.refl H)⟩, fun {G' H' d2 Ad'} sg o hr => ?_⟩
  obtain ⟨A', o', p'⟩ := ownA_put (ownA_fr h4 sg (fun b hb => (hr b hb).2) fun b hb => (hr b hb).1) hj o
  rw [List.set_set, set_id hm, set_id h2] at o'
  exact ⟨A', o', p'⟩
theorem repl_get {t : Ty} {n j : Nat} (h : j < n) : (List.replicate n t)[j]? = some t := by rw [List.getElem?_replicate, if_pos h]
theorem repl_set {t : Ty} {n j : Nat} : (List.replicate n t).set j t = List.replicate n t := by
  apply List.ext_getElem?
  intro i
  rw [List.getElem?_set]
  split
  · rename_i h; subst h; split
    · rw [List.getElem?_replicate]; simp_all
    · rw [List.getElem?_eq_none (by omega)]
  · rfl
theorem DPl.sub {te ti : TE} (hp : DPl K m te (.l t) g pt) (hi : DQv K m ti gi) (hl : lstTy t = true) : DPl K m (tOp (rIxL K) te ti) t (gSub1 g gi) (pSub1 g gi pt) := by
  intro G H σ e A d st hf
  obtain ⟨dl, h1, hf⟩ := oBs hf
  obtain ⟨di, h2, hf⟩ := oBs hf
  obtain ⟨a, Ad, Ar, hp1, o1, ev, back⟩ := hp st h1
  cases o1 with
  | @l _ _ vs ds A1 ga ha hz oA =>
    cases di with
    | int k =>
      have hf : (ixN ds.length k).bind (fun j => ds[j]?) = some d := hf
      obtain ⟨j, hj, hd⟩ := oBs hf
      have hjl : j < ds.length := (List.getElem?_eq_some_iff.mp hd).1
      obtain ⟨d', v, Aj, A0, e1, e2, oj, oR, pj⟩ := ownA_take oA (j := j) (repl_get hjl)
      rw [hd] at e1; cases e1
      have len := (ownA_len oA).2
      rw [List.length_map] at len
      have hvj : ∃ w, v = some w ∧ vs[j]? = some w := by
        rw [List.getElem?_map] at e2
        obtain ⟨w, hw, e3⟩ := Option.map_eq_some_iff.mp e2
        exact ⟨w, e3.symm, hw⟩
      obtain ⟨w, rfl, hw⟩ := hvj
      obtain ⟨b, rfl⟩ : ∃ b : Addr, w = .ref b := by
        cases oj with
        | u => cases hl
        | s => cases hl
        | e => cases hl
        | k => cases hl
        | a => cases hl
        | q => cases hl
        | d => exact ⟨_, rfl⟩
        | t => exact ⟨_, rfl⟩
        | o => exact ⟨_, rfl⟩
        | f => cases hl
        | x => cases hl
        | l => exact ⟨_, rfl⟩
        | r => exact ⟨_, rfl⟩
      refine ⟨b, Aj, a :: (A0 ++ Ar), ?_, oj, fun {Q} kq => ?_, fun {G' H' d2 Ad'} sg o hr => ?_⟩
      · refine hp1.trans (List.perm_iff_count.mpr fun z => ?_)
        have := List.perm_iff_count.mp pj z
        simp only [List.count_append, List.count_cons, List.cons_append] at this ⊢
        omega
      · refine ev fun H1 s1 => hi (stt_grow st s1).2 h2 fun H2 x s2 q => ?_
        cases q with
        | int k =>
          refine ⟨a, vs, k, .ref b, rfl, rfl, .inl (.inl ((s1.trans s2) _ _ ha)), ?_, kq H2 (s1.trans s2)⟩
          unfold atI
          rw [len, hj]; exact hw
      · have hA0 : ∀ b ∈ A0, H' b = H b ∧ G' b = none := fun b hb => hr b (List.mem_cons_of_mem _ (List.mem_append_left _ hb))
        have hju : ((List.replicate ds.length t).set j .u)[j]? = some .u := by rw [List.getElem?_set_self (by rw [List.length_replicate]; exact hjl)]
        obtain ⟨A2, o2, p2⟩ := ownA_put (ownA_fr oR sg (fun b hb => (hA0 b hb).2) fun b hb => (hA0 b hb).1) hju o
        rw [List.set_set, repl_set, set_id e2] at o2
        have hra := hr a (List.mem_cons_self ..)
        have o3 : Own K G' H' (.l t) (.list (ds.set j d2)) (some (.ref a)) (a :: A2) := .l hra.2 (by rw [hra.1]; exact ha) hz (by rw [List.length_set]; exact o2)
        obtain ⟨A3, o4, p4⟩ := back sg o3 fun b hb => hr b (List.mem_cons_of_mem _ (List.mem_append_right _ hb))
        refine ⟨A3, ?_, p4.trans (List.perm_iff_count.mpr fun z => ?_)⟩
        · have : pSub1 g gi pt e d2 = pt e (.list (ds.set j d2)) := by
            show pt e (setD ((g e).getD .none) ((gi e).getD .none) d2) = _
            rw [h1, h2]
            show pt e (match ixN ds.length k with | some j => .list (ds.set j d2) | none => .list ds) = _
            rw [hj]
          rw [this]; exact o4
        · have := List.perm_iff_count.mp p2 z
          simp only [List.count_append, List.count_cons, List.cons_append] at this ⊢
          omega
    | _ => cases hf
theorem DPl.fld {te ti : TE} {k : Nat} (hp : DPl K m te (.r ts) g pt) (hi : DQv K m ti gi) (hk : ∀ e, gi e = some (.int (k : Nat))) (ht : ts[k]? = some t) (hl : lstTy t = true) : DPl K m (tOp (rIxL K) te ti) t (gSub1 g gi) (pSub1 g gi pt) := by
  intro G H σ e A d st hf
  obtain ⟨dl, h1, hf⟩ := oBs hf
  obtain ⟨di, h2, hf⟩ := oBs hf
  obtain ⟨a, Ad, Ar, hp1, o1, ev, back⟩ := hp st h1
  cases o1 with
  | @r _ _ vs ds A1 ga ha hz oA =>
    rw [hk e] at h2; cases h2
    have hf : (ixN ds.length ((k : Nat) : Int)).bind (fun j => ds[j]?) = some d := hf
    obtain ⟨j, hj, hd⟩ := oBs hf
    have hjk : j = k := by
      have q := ixN_seq hj
      have q1 := q.1
      rw [seqIndex_of (by omega) (by omega)] at q1
      have := Option.some.inj q1
      omega
    subst hjk
    obtain ⟨d', v, Aj, A0, e1, e2, oj, oR, pj⟩ := ownA_take oA (j := j) ht
    rw [hd] at e1; cases e1
    have len := (ownA_len oA).2
    rw [List.length_map] at len
    have hvj : ∃ w, v = some w ∧ vs[j]? = some w := by
      rw [List.getElem?_map] at e2
      obtain ⟨w, hw, e3⟩ := Option.map_eq_some_iff.mp e2
      exact ⟨w, e3.symm, hw⟩
    obtain ⟨w, rfl, hw⟩ := hvj
    obtain ⟨b, rfl⟩ : ∃ b : Addr, w = .ref b := by
      cases oj with
      | u => cases hl
      | s => cases hl
      | e => cases hl
      | k => cases hl
      | a => cases hl
      | q => cases hl
      | d => exact ⟨_, rfl⟩
      | t => exact ⟨_, rfl⟩
      | o => exact ⟨_, rfl⟩
      | f => cases hl
      | x => cases hl
      | l => exact ⟨_, rfl⟩
      | r => exact ⟨_, rfl⟩
    refine ⟨b, Aj, a :: (A0 ++ Ar), ?_, oj, fun {Q} kq => ?_, fun {G' H' d2 Ad'} sg o hr => ?_⟩
    · refine hp1.trans (List.perm_iff_count.mpr fun z => ?_)
      have := List.perm_iff_count.mp pj z
      simp only [List.count_append, List.count_cons, List.cons_append] at this ⊢
      omega
    · refine ev fun H1 s1 => hi (stt_grow st s1).2 (hk e) fun H2 x s2 q => ?_
      cases q with
      | int =>
        refine ⟨a, vs, _, .ref b, rfl, rfl, .inl (.inl ((s1.trans s2) _ _ ha)), ?_, kq H2 (s1.trans s2)⟩
        unfold atI
        rw [len, hj]; exact hw
    · have hA0 : ∀ b ∈ A0, H' b = H b ∧ G' b = none := fun b hb => hr b (List.mem_cons_of_mem _ (List.mem_append_left _ hb))
      have hju : (ts.set j .u)[j]? = some .u := by rw [List.getElem?_set_self (List.getElem?_eq_some_iff.mp ht).1]
      obtain ⟨A2, o2, p2⟩ := ownA_put (ownA_fr oR sg (fun b hb => (hA0 b hb).2) fun b hb => (hA0 b hb).1) hju o
      rw [List.set_set, set_id ht, set_id e2] at o2
      have hra := hr a (List.mem_cons_self ..)
      have o3 : Own K G' H' (.r ts) (.list (ds.set j d2)) (some (.ref a)) (a :: A2) := .r hra.2 (by rw [hra.1]; exact ha) hz o2
      obtain ⟨A3, o4, p4⟩ := back sg o3 fun b hb => hr b (List.mem_cons_of_mem _ (List.mem_append_right _ hb))
      refine ⟨A3, ?_, p4.trans (List.perm_iff_count.mpr fun z => ?_)⟩
      · have : pSub1 g gi pt e d2 = pt e (.list (ds.set j d2)) := by
          show pt e (setD ((g e).getD .none) ((gi e).getD .none) d2) = _
          rw [h1, hk e]
          show pt e (match ixN ds.length ((j : Nat) : Int) with | some j => .list (ds.set j d2) | none => .list ds) = _
          rw [hj]
        rw [this]; exact o4
      · have := List.perm_iff_count.mp p2 z
        simp only [List.count_append, List.count_cons, List.cons_append] at this ⊢
        omega
include F in
theorem pp_fld (k : Nat) {j} {ki : Int} (hp : PPl Xf K m a (.r ts) g pt) (hk : ki = (k : Nat) := by rfl) (ht : ts[k]? = some t := by rfl) (hl : lstTy t = true := by rfl) : PPl Xf K m (.Subscript a (.Constant (.int ki) j p) pos) t (gSub1 g (qC (.int ki))) (pSub1 g (qC (.int ki)) pt) := by
  obtain ⟨ta, pa, da⟩ := hp.ex
  obtain ⟨tb, pb, db⟩ := (pq_int (Xf := Xf) (K := K) (m := m) (i := ki) (j := j) (pos := p)).ex
  exact ⟨_, fun i => by have := pe_ix (ix_list (X := Xf i)) (pa i) (pb i) (fun _ _ => rfl) (pos := pos); rw [F.kk i] at this; exact this, DPl.fld da db (fun e => by subst hk; rfl) ht hl⟩
end
end DL
namespace DL
open PySem L2 PySem.Spec
inductive Out where
  | nx | bk | ct | rt (d : PyData)
abbrev Sf := En → Option (Out × En)
structure Mk where
  b : List Ty
  c : List Ty
  r : List Ty
  po : List Nat
  ty : Ty
def Pin (po : List Nat) (σ σ' : St) : Prop := ∀ j ∈ po, σ'[j]? = σ[j]?
theorem Pin.refl {po : List Nat} {σ : St} : Pin po σ σ := fun _ _ => rfl
theorem Pin.trans {po : List Nat} {σ σ1 σ2 : St} (h : Pin po σ σ1) (k : Pin po σ1 σ2) : Pin po σ σ2 := fun j hj => (k j hj).trans (h j hj)
theorem Pin.set {po : List Nat} {σ : St} {j : Nat} {x : Option V} (h : j ∉ po) : Pin po σ (σ.set j x) := fun i hi => by rw [List.getElem?_set_ne]; intro z; exact h (z ▸ hi)
def Fin (K : PySem.W.Frag) (M : Mk) (mn : List Ty) (A : List Addr) (G H : Hp) (σ : St) (D : Ends) (e' : En) : Out → Prop
  | .nx => ∀ (G' H' : Hp) (σ' : St) (A' : List Addr), Step A G H A' G' H' → Stt K mn G' H' σ' e' A' → Pin M.po σ σ' → D.nx σ' H'
  | .bk => ∀ (G' H' : Hp) (σ' : St) (A' : List Addr), Step A G H A' G' H' → Stt K M.b G' H' σ' e' A' → Pin M.po σ σ' → D.bk σ' H'
  | .ct => ∀ (G' H' : Hp) (σ' : St) (A' : List Addr), Step A G H A' G' H' → Stt K M.c G' H' σ' e' A' → Pin M.po σ σ' → D.ct σ' H'
  | .rt d => ∀ (G' H' : Hp) (σ' : St) (v : V) (Av A' : List Addr), Step A G H (Av ++ A') G' H' → Stt K M.r G' H' σ' e' A' → Own K G' H' M.ty d (some v) Av → (Av ++ A').Nodup → Pin M.po σ σ' → D.rt v H'
def DS (K : PySem.W.Frag) (M : Mk) (m : List Ty) (t : TS) (f : Sf) (mn : List Ty) : Prop :=
  ∀ {G H : Hp} {σ : St} {e : En} {A : List Addr} {o : Out} {e' : En} {D : Ends}, Stt K m G H σ e A → f e = some (o, e') → Fin K M mn A G H σ D e' o → t D σ H
structure PSd {ι : Type} (Xf : ι → Cx) (K : PySem.W.Frag) (M : Mk) (m : List Ty) (st : Stmt) (f : Sf) (mn : List Ty) : Prop where
  ex : ∃ t : TS, (∀ i, PS (Xf i) st t) ∧ DS K M m t f mn
structure PSsd {ι : Type} (Xf : ι → Cx) (K : PySem.W.Frag) (M : Mk) (m : List Ty) (st : List Stmt) (f : Sf) (mn : List Ty) : Prop where
  ex : ∃ t : TS, (∀ i, PSs (Xf i) st t) ∧ DS K M m t f mn
class FamN {ι : Type} (Xf : ι → Cx) : Prop where
  ps : ∀ i, PassesOwn (model (Xf i).prog (Xf i).w) (Xf i).A (Xf i).env (Xf i).xe
def fuel : Nat := 1048576
def sNil : Sf := fun e => some (.nx, e)
def sSeq (f g : Sf) : Sf := fun e => (f e).bind fun p => match p.1 with
  | .nx => g p.2
  | o => some (o, p.2)
def sIf (c : Bf) (f g : Sf) : Sf := fun e => (c e).bind fun p => if p.1 = true then f p.2 else g p.2
def sRet (f : Ef) : Sf := fun e => (f e).map fun p => (.rt p.1, p.2)
def sBrk : Sf := fun e => some (.bk, e)
def sCnt : Sf := fun e => some (.ct, e)
def sRetN : Sf := fun e => some (.rt .none, e)
def sDrop (f : Ef) : Sf := fun e => (f e).map fun p => (.nx, p.2)
def sAsg (j : Nat) (f : Ef) : Sf := fun e => (f e).map fun p => (.nx, p.2.set j p.1)
def sTg (f : Ef) (g : Gf) : Sf := fun e => (f e).bind fun p => (g p.1 p.2).map fun e' => (.nx, e')
def sPar (i j : Nat) (f : Lf) : Sf := fun e => (f e).bind fun p => match p.1 with
  | [x, y] => some (.nx, (p.2.set i x).set j y)
  | _ => none
def sPar3 (i j l : Nat) (f : Lf) : Sf := fun e => (f e).bind fun p => match p.1 with
  | [x, y, z] => some (.nx, ((p.2.set i x).set j y).set l z)
  | _ => none
def forL (g : Gf) (f : Sf) : List PyData → En → Option (Out × En)
  | [], e => some (.nx, e)
  | d :: ds, e => (g d e).bind fun e1 => (f e1).bind fun p => match p.1 with
    | .nx => forL g f ds p.2
    | .ct => forL g f ds p.2
    | .bk => some (.nx, p.2)
    | .rt r => some (.rt r, p.2)
def sFor (it : Lf) (g : Gf) (f : Sf) : Sf := fun e => (it e).bind fun p => forL g f p.1 p.2
def whL (c : Bf) (f : Sf) : Nat → En → Option (Out × En)
  | 0, _ => none
  | k + 1, e => (c e).bind fun p => if p.1 = true then (f p.2).bind fun q => match q.1 with
    | .nx => whL c f k q.2
    | .ct => whL c f k q.2
    | .bk => some (.nx, q.2)
    | .rt r => some (.rt r, q.2) else some (.nx, p.2)
def sWh (fuel : Nat) (c : Bf) (f : Sf) : Sf := fun e => whL c f fuel e
section
variable {K : PySem.W.Frag} {M : Mk} {G H G1 H1 : Hp} {m m1 m2 mn : List Ty} {σ σ1 : St} {e : En} {A A1 : List Addr} {D : Ends} {e' : En} {o : Out} {t u : TS} {f g : Sf} {ef : Ef} {bf : Bf} {lf : Lf}
theorem Fin.back (s : Step A G H A1 G1 H1) (p : Pin M.po σ σ1) (h : Fin K M mn A G H σ D e' o) : Fin K M mn A1 G1 H1 σ1 D e' o := by
  cases o with
  | nx => exact fun G' H' σ' A' s' st' p' => h G' H' σ' A' (s.seq0 s') st' (p.trans p')
  | bk => exact fun G' H' σ' A' s' st' p' => h G' H' σ' A' (s.seq0 s') st' (p.trans p')
  | ct => exact fun G' H' σ' A' s' st' p' => h G' H' σ' A' (s.seq0 s') st' (p.trans p')
  | rt d => exact fun G' H' σ' v Av A' s' st' o' nd p' => h G' H' σ' v Av A' (s.seq0 s') st' o' nd (p.trans p')
theorem le_aside {v : V} {Av : List Addr} {ty : Ty} {d : PyData} (l : LeM m m1) (s : Step A G H (Av ++ A1) G1 H1) (st : Stt K m G1 H1 σ e A1) (ov : Own K G1 H1 ty d (some v) Av) (nd : (Av ++ A1).Nodup) :
    ∃ G2 A2, Step A G H (Av ++ A2) G2 H1 ∧ Stt K m1 G2 H1 σ e A2 ∧ Own K G2 H1 ty d (some v) Av ∧ (Av ++ A2).Nodup := by
  obtain ⟨G2, A2, s2, st2⟩ := stt_le l st
  obtain ⟨s3, nd3, hg, hh⟩ := s.seq (own_at ov) nd s2 st2.nd
  exact ⟨G2, A2, s3, st2, own_fr ov s2.sg hg fun _ _ => rfl, nd3⟩
theorem DS.le (h : DS K M m t f m1) (l : LeM m1 mn) : DS K M m t f mn := by
  intro G H σ e A o e' D st hf k
  refine h st hf ?_
  cases o with
  | nx =>
    intro G' H' σ' A' s' st' p'
    obtain ⟨G2, A2, s2, st2⟩ := stt_le l st'
    exact k G2 H' σ' A2 (s'.seq0 s2) st2 p'
  | bk => exact k
  | ct => exact k
  | rt d => exact k
theorem DS.seq (h1 : DS K M m t f m1) (h2 : DS K M m1 u g mn) : DS K M m (tSeq t u) (sSeq f g) mn := by
  intro G H σ e A o e' D st hf k
  obtain ⟨⟨o1, e1⟩, hf1, hf⟩ := oBs hf
  refine h1 st hf1 ?_
  cases o1 with
  | nx => exact fun G' H' σ' A' s' st' p' => h2 st' hf (k.back s' p')
  | bk => cases hf; exact k
  | ct => cases hf; exact k
  | rt d => cases hf; exact k
theorem DS.nil : DS K M m tNext sNil m := fun st hf k => by cases hf; exact k _ _ _ _ Step.refl st Pin.refl
theorem DS.ite {tc : TT} (hc : DT K m tc bf m1) (h1 : DS K M m1 t f mn) (h2 : DS K M m1 u g mn) : DS K M m (tIfS tc t u) (sIf bf f g) mn := by
  intro G H σ e A o e' D st hf k
  obtain ⟨⟨b, e1⟩, hf1, hf⟩ := oBs hf
  refine hc st hf1 fun G1 H1 A1 s1 st1 => ?_
  cases b with
  | true => exact h1 st1 hf (k.back s1 Pin.refl)
  | false => exact h2 st1 hf (k.back s1 Pin.refl)
theorem DS.ret {te : TE} (he : DE K m te M.ty ef m1) (l : LeM m1 M.r) : DS K M m (tRet te) (sRet ef) mn := by
  intro G H σ e A o e' D st hf k
  obtain ⟨⟨d, e1⟩, hf1, hf⟩ := Option.map_eq_some_iff.mp hf
  cases hf
  refine he st hf1 fun G1 H1 v Av A1 s1 st1 o1 nd1 => ?_
  obtain ⟨G2, A2, s2, st2, o2, nd2⟩ := le_aside l s1 st1 o1 nd1
  exact k G2 H1 σ v Av A2 s2 st2 o2 nd2 Pin.refl
theorem DS.brk (l : LeM m M.b) : DS K M m tBreak sBrk mn := by
  intro G H σ e A o e' D st hf k
  cases hf
  obtain ⟨G2, A2, s2, st2⟩ := stt_le l st
  exact k G2 H σ A2 s2 st2 Pin.refl
theorem DS.cnt (l : LeM m M.c) : DS K M m tCont sCnt mn := by
  intro G H σ e A o e' D st hf k
  cases hf
  obtain ⟨G2, A2, s2, st2⟩ := stt_le l st
  exact k G2 H σ A2 s2 st2 Pin.refl
theorem DS.drop {te : TE} {ty : Ty} (he : DE K m te ty ef m1) : DS K M m (tDrop te) (sDrop ef) m1 := by
  intro G H σ e A o e' D st hf k
  obtain ⟨⟨d, e1⟩, hf1, hf⟩ := Option.map_eq_some_iff.mp hf
  cases hf
  exact he st hf1 fun G1 H1 v Av A1 s1 st1 o1 nd1 => k G1 H1 σ A1 (s1.less fun a h => List.mem_append_right _ h) st1 Pin.refl
theorem DS.asg {te : TE} {ty : Ty} {j : Nat} (he : DE K m te ty ef m1) (hj : j < m1.length) (hp : j ∉ M.po) : DS K M m (tAsg te (gName j)) (sAsg j ef) (m1.set j ty) := by
  intro G H σ e A o e' D st hf k
  obtain ⟨⟨d, e1⟩, hf1, hf⟩ := Option.map_eq_some_iff.mp hf
  cases hf
  refine he st hf1 fun G1 H1 v Av A1 s1 st1 o1 nd1 => ?_
  obtain ⟨A2, st2, hA⟩ := stt_set st1 hj o1 nd1
  exact k G1 H1 _ A2 (s1.less hA) st2 (Pin.set hp)
theorem DS.tg {te : TE} {tg : TG} {gf : Gf} {sl : List Nat} (he : DE K m te .s ef m1) (hg : DG K false m1 tg sl gf m2) (hp : ∀ j ∈ M.po, j ∉ sl) : DS K M m (tAsg te tg) (sTg ef gf) m2 := by
  intro G H σ e A o e' D st hf k
  obtain ⟨⟨d, e1⟩, hf1, hf⟩ := oBs hf
  obtain ⟨e2, hf2, hf⟩ := Option.map_eq_some_iff.mp hf
  cases hf
  refine he st hf1 fun G1 H1 v Av A1 s1 st1 o1 nd1 => ?_
  cases o1 with
  | s q1 => exact hg st1 (.inl q1) hf2 fun G2 H2 σ2 A2 s2 st2 hs hl => k G2 H2 σ2 A2 (s1.seq0 s2) st2 fun j hj => hs j (hp j hj)
theorem DS.par {ta : TA} {i j : Nat} (ha : DA K m ta [.s, .s] lf m1) (hi : i < m1.length) (hj : j < m1.length) (pi : i ∉ M.po) (pj : j ∉ M.po) : DS K M m (tPar i j ta) (sPar i j lf) ((m1.set i .s).set j .s) := by
  intro G H σ e A o e' D st hf k
  obtain ⟨⟨ds, e1⟩, hf1, hf⟩ := oBs hf
  refine ha st hf1 fun G1 H1 vs Av A1 s1 st1 o1 nd1 => ?_
  obtain ⟨rfl, q⟩ := of_ownA (n := 2) o1
  match ds, hf, q with
  | [x, y], hf, q =>
    cases hf
    match vs, q with
    | [v, w], q =>
      have qv := q.head
      have qw := q.tail.head
      obtain ⟨A2, st2, hA2⟩ := stt_set st1 hi (.s qv) (Av := []) st1.nd
      obtain ⟨A3, st3, hA3⟩ := stt_set st2 (by rw [List.length_set]; exact hj) (.s qw) (Av := []) st2.nd
      exact ⟨v, w, rfl, k G1 H1 _ A3 (s1.less fun a h => hA2 a (hA3 a h)) st3 ((Pin.set pi).trans (Pin.set pj))⟩
theorem DS.for {wk : Bool} {wi : TI} {tg : TG} {gf : Gf} {sl : List Nat} {ml : List Ty} (hi : DI K wk m wi lf m1) (l1 : LeM m1 ml) (hg : DG K wk ml tg sl gf m2) (hb : DS K { M with b := mn, c := ml } m2 t f ml) (l2 : LeM ml mn) (hp : ∀ j ∈ M.po, j ∉ sl) :
    DS K M m (tFor wi tg t) (sFor lf gf f) mn := by
  intro G H σ e A o e' D st hf k
  obtain ⟨⟨ds, e1⟩, hf1, hf⟩ := oBs hf
  refine hi st hf1 fun G1 H1 A1 J s1 st1 wk hz => ?_
  obtain ⟨G2, A2, s2, st2⟩ := stt_le l1 st1
  let T := fun (i : Nat) (σc : St) (Hc : Hp) => ∃ Gc ec A', Step A G H A' Gc Hc ∧ Same G1 Gc ∧ Stt K ml Gc Hc σc ec A' ∧ Pin M.po σ σc ∧ forL gf f (ds.drop i) ec = some (o, e')
  refine ⟨fun i mm σc Hc => mm = ds.length - i ∧ i ≤ ds.length ∧ T i σc Hc, ⟨ds.length, by omega, Nat.zero_le _, G2, e1, A2, s1.seq0 s2, s2.sg, st2, Pin.refl, hf⟩, ?_⟩
  rintro i mm σc Hc ⟨rfl, hle, Gc, ec, A', sc, sg, stc, pc, hl⟩
  have sub1 : Same G1 Hc := sg.trans stc.sub
  by_cases hi : i < ds.length
  · refine .inr ⟨wk.goes i Hc hi sub1, fun σn Hn => i < ds.length ∧ T (i + 1) σn Hn, fun σn Hn hn => ⟨ds.length - (i + 1), by omega, rfl, by omega, hn.2⟩, fun x Hy hy => ?_⟩
    obtain ⟨Gy, sy, sty, sgy, qy⟩ := wk.yields hi sg stc hy
    have hd : ds.drop i = ds[i] :: ds.drop (i + 1) := List.drop_eq_getElem_cons hi
    rw [hd] at hl
    unfold forL at hl
    obtain ⟨e2, hl1, hl⟩ := oBs hl
    obtain ⟨⟨o3, e3⟩, hl2, hl⟩ := oBs hl
    refine hg sty (qy _ (List.getElem?_eq_getElem hi)) hl1 fun G3 H3 σ3 A3 s3 st3 k3 l3 => ?_
    have p3 : Pin M.po σ σ3 := pc.trans fun j hj => k3 j (hp j hj)
    have s03 := (sc.seq0 sy).seq0 s3
    refine hb st3 hl2 ?_
    cases o3 with
    | nx => exact fun G4 H4 σ4 A4 s4 st4 p4 => ⟨hi, G4, e3, A4, s03.seq0 s4, ((sg.trans sgy).trans s3.sg).trans s4.sg, st4, p3.trans p4, hl⟩
    | ct => exact fun G4 H4 σ4 A4 s4 st4 p4 => ⟨hi, G4, e3, A4, s03.seq0 s4, ((sg.trans sgy).trans s3.sg).trans s4.sg, st4, p3.trans p4, hl⟩
    | bk => cases hl; exact fun G4 H4 σ4 A4 s4 st4 p4 => k G4 H4 σ4 A4 (s03.seq0 s4) st4 (p3.trans p4)
    | rt r => cases hl; exact fun G4 H4 σ4 v Av A4 s4 st4 o4 nd4 p4 => k G4 H4 σ4 v Av A4 (s03.seq0 s4) st4 o4 nd4 (p3.trans p4)
  · have hie : i = ds.length := by omega
    subst hie
    rw [List.drop_length] at hl
    cases hl
    obtain ⟨G4, A4, s4, st4⟩ := stt_le l2 stc
    exact .inl ⟨wk.stops Hc sub1, k G4 Hc σc A4 (sc.seq0 s4) st4 pc⟩
theorem DS.wh {tc : TT} {ml : List Ty} {fuel : Nat} (l0 : LeM m ml) (hc : DT K ml tc bf m1) (hb : DS K { M with b := mn, c := ml } m1 t f ml) (l2 : LeM m1 mn) : DS K M m (tWhile tc t) (sWh fuel bf f) mn := by
  intro G H σ e A o e' D st hf k
  obtain ⟨G2, A2, s2, st2⟩ := stt_le l0 st
  refine ⟨fun i σc Hc => ∃ Gc ec A', Step A G H A' Gc Hc ∧ Stt K ml Gc Hc σc ec A' ∧ Pin M.po σ σc ∧ whL bf f i ec = some (o, e'), ⟨fuel, G2, e, A2, s2, st2, Pin.refl, hf⟩, ?_⟩
  rintro i σc Hc ⟨Gc, ec, A', sc, stc, pc, hl⟩
  cases i with
  | zero => cases hl
  | succ i =>
    unfold whL at hl
    obtain ⟨⟨b, e2⟩, hl1, hl⟩ := oBs hl
    refine hc stc hl1 fun G3 H3 A3 s3 st3 => ?_
    cases b with
    | true =>
      rw [if_pos rfl] at hl ⊢
      obtain ⟨⟨o3, e3⟩, hl2, hl⟩ := oBs hl
      refine ⟨fun σn Hn => ∃ Gc ec A', Step A G H A' Gc Hn ∧ Stt K ml Gc Hn σn ec A' ∧ Pin M.po σ σn ∧ whL bf f i ec = some (o, e'), fun σn Hn hn => ⟨i, Nat.lt_succ_self i, hn⟩, hb st3 hl2 ?_⟩
      have s03 := sc.seq0 s3
      cases o3 with
      | nx => exact fun G4 H4 σ4 A4 s4 st4 p4 => ⟨G4, e3, A4, s03.seq0 s4, st4, pc.trans p4, hl⟩
      | ct => exact fun G4 H4 σ4 A4 s4 st4 p4 => ⟨G4, e3, A4, s03.seq0 s4, st4, pc.trans p4, hl⟩
      | bk => cases hl; exact fun G4 H4 σ4 A4 s4 st4 p4 => k G4 H4 σ4 A4 (s03.seq0 s4) st4 (pc.trans p4)
      | rt r => cases hl; exact fun G4 H4 σ4 v Av A4 s4 st4 o4 nd4 p4 => k G4 H4 σ4 v Av A4 (s03.seq0 s4) st4 o4 nd4 (pc.trans p4)
    | false =>
      rw [if_neg (by simp)] at hl ⊢
      cases hl
      obtain ⟨G4, A4, s4, st4⟩ := stt_le l2 st3
      exact k G4 H3 σc A4 ((sc.seq0 s3).seq0 s4) st4 pc
end
section
variable {ι : Type} {Xf : ι → Cx} {P : Program} {w : World} {K : PySem.W.Frag} {mg : Str → Option Value} {base : Heap} {n : Nat} [F : Fam Xf P w K mg base n]
variable {M : Mk} {m m1 m2 mn ml : List Ty} {pos p p2 spos : Pos} {a b c v tg iter : Expr} {st : Stmt} {rest body orelse : List Stmt} {f g : Sf} {ef : Ef} {bf : Bf} {lf : Lf} {gf : Gf} {sl : List Nat} {ty : Ty}
theorem ss_nil : PSsd Xf K M m [] sNil m := ⟨_, fun i => pss_nil, DS.nil⟩
theorem ss_cons (h1 : PSd Xf K M m st f m1) (h2 : PSsd Xf K M m1 rest g mn) : PSsd Xf K M m (st :: rest) (sSeq f g) mn := by
  obtain ⟨t, p, d⟩ := h1.ex
  obtain ⟨u, q, d2⟩ := h2.ex
  exact ⟨_, fun i => pss_cons (p i) (q i), DS.seq d d2⟩
theorem ss_one (h1 : PSd Xf K M m st f m1) : PSsd Xf K M m [st] f m1 := by
  obtain ⟨t, p, d⟩ := h1.ex
  exact ⟨_, fun i => pss_one (p i), d⟩
theorem ss_le (h : PSsd Xf K M m rest f m1) (l : LeM m1 mn) : PSsd Xf K M m rest f mn := by
  obtain ⟨t, p, d⟩ := h.ex
  exact ⟨_, p, d.le l⟩
theorem ds_ret (he : PD Xf K m v M.ty ef m1) (l : LeM m1 M.r) : PSd Xf K M m (.Return (some v) pos) (sRet ef) mn := by
  obtain ⟨t, p, d⟩ := he.ex
  exact ⟨_, fun i => ps_ret (p i), DS.ret d l⟩
theorem ds_if (hc : PB Xf K m c bf m1) (ha : PSsd Xf K M m1 body f mn) (hb : PSsd Xf K M m1 orelse g mn) : PSd Xf K M m (.If c body orelse pos) (sIf bf f g) mn := by
  obtain ⟨t, p, d⟩ := hc.ex
  obtain ⟨t1, p1, d1⟩ := ha.ex
  obtain ⟨t2, p2, d2⟩ := hb.ex
  exact ⟨_, fun i => ps_if (p i) (p1 i) (p2 i), DS.ite d d1 d2⟩
theorem ds_drop (he : PD Xf K m v ty ef m1) (hs : ∀ i, swapsWith v none pos.line (Xf i).env = pure false := by intro _; rfl) : PSd Xf K M m (.Expr v pos) (sDrop ef) m1 := by
  obtain ⟨t, p, d⟩ := he.ex
  exact ⟨_, fun i => ps_expr (p i) (hs i), DS.drop d⟩
include F in
theorem ds_asg (j : Nat) {x : Str} {pos' : Pos} (he : PD Xf K m v ty ef m1) (hj : j < m1.length := by first | decide | rfl | simp) (hp : j ∉ M.po := by first | decide | rfl | simp) (hi : ∀ i, (Xf i).N[j]? = some x := by intro _; rfl) (hx : ∀ i, Loc (Xf i).env.scope x := by first | (intro _; exact Or.inl rfl) | (intro _; exact Or.inr rfl))
    (hs : ∀ i, swapsWith v (some (.Name x pos')) pos.line (Xf i).env = pure false := by intro _; rfl) (hf : ∀ i, (Xf i).fn x = true ∨ (Xf i).env.scope.names.lookup x = some .local := by first | (intro _; exact Or.inl rfl) | (intro _; exact Or.inr rfl)) :
    PSd Xf K M m (.Assign [.Name x pos'] v pos) (sAsg j ef) (m1.set j ty) := by
  obtain ⟨t, p, d⟩ := he.ex
  exact ⟨_, fun i => ps_set (F.nd i) (hi i) (hx i) (p i) (hs i) (hf i), DS.asg d hj hp⟩
theorem ds_tg (he : PD Xf K m v .s ef m1) (hg : PGD Xf K false m1 tg sl gf m2) (hp : ∀ j ∈ M.po, j ∉ sl := by first | decide | rfl | simp) (hs : ∀ i, swapsWithSole [tg] v pos.line (Xf i).env = pure false := by intro _; rfl) (hw : ∀ i, swappedStores [tg] v (Xf i).env = pure none := by intro _; rfl)
    (h1 : ∀ i, (assignEach [tg] (Xf i).env).map (·.2) = [assign tg (Xf i).env] := by intro _; rfl) : PSd Xf K M m (.Assign [tg] v pos) (sTg ef gf) m2 := by
  obtain ⟨t, p, d⟩ := he.ex
  obtain ⟨t2, p2, d2⟩ := hg.ex
  exact ⟨_, fun i => ps_asg (p i) (p2 i) (hs i) (hw i) (h1 i), DS.tg d d2 hp⟩
include F in
theorem ds_par [FG : FamG Xf] (i j : Nat) {L : List (Option Nat)} {x y : Str} {px py pt pt2 : Pos} {kt k2} (ha : PAL Xf K m [a, b] [.s, .s] L lf m1) (hi : i < m1.length := by first | decide | rfl | simp) (hj : j < m1.length := by first | decide | rfl | simp) (pi : i ∉ M.po := by first | decide | rfl | simp) (pj : j ∉ M.po := by first | decide | rfl | simp) (hij : i ≠ j := by decide)
    (ni : ∀ z, (Xf z).N[i]? = some x := by intro _; rfl) (nj : ∀ z, (Xf z).N[j]? = some y := by intro _; rfl) (hx : ∀ z, (Xf z).env.scope.names.lookup x = some .local := by intro _; rfl) (hy : ∀ z, (Xf z).env.scope.names.lookup y = some .local := by intro _; rfl)
    (hw : ∀ z, swappedStores [.Tuple [.Name x px, .Name y py] kt pt] (.Tuple [a, b] k2 pt2) (Xf z).env = pure (some [x, y]) := by intro _; rfl) (hs : ∀ z, swapsWithSole [.Tuple [.Name x px, .Name y py] kt pt] (.Tuple [a, b] k2 pt2) pos.line (Xf z).env = pure false := by intro _; rfl) :
    PSd Xf K M m (.Assign [.Tuple [.Name x px, .Name y py] kt pt] (.Tuple [a, b] k2 pt2) pos) (sPar i j lf) ((m1.set i .s).set j .s) := by
  obtain ⟨t, p, d⟩ := ha.ex
  exact ⟨_, fun z => ps_par (FG.calm z) (F.nd z) (ni z) (nj z) hij (hx z) (hy z) (p z) (hw z) (hs z), DS.par (fun st hf k => d st hf fun G' H' vs Av A' s st' o nd _ => k G' H' vs Av A' s st' o nd) hi hj pi pj⟩
include F in
theorem ds_for [FG : FamG Xf] {wk : Bool} [FN : FamN Xf] (ml : List Ty) (hi : PIt Xf K wk m tg iter lf m1) (l1 : LeM m1 ml) (hg : PGD Xf K wk ml tg sl gf m2) (hb : PSsd Xf K { M with b := mn, c := ml } m2 body f ml) (l2 : LeM ml mn) (hp : ∀ j ∈ M.po, j ∉ sl := by first | decide | rfl | simp)
    (hs : ∀ i x, foldedSetIterable iter (Xf i).env x = pure x := by intro _ _; rfl) : PSd Xf K M m (.For tg iter body [] pos) (sFor lf gf f) mn := by
  obtain ⟨wi, pi, di⟩ := hi.ex
  obtain ⟨g, pg, dg⟩ := hg.ex
  obtain ⟨t, p, d⟩ := hb.ex
  exact ⟨_, fun i => ps_for (FN.ps i) (FG.calm i) (pi i) (pg i) (p i) (hs i), DS.for di l1 dg d l2 hp⟩
theorem ds_wh [FN : FamN Xf] (fuel : Nat) (ml : List Ty) (l0 : LeM m ml) (hc : PB Xf K ml c bf m1) (hb : PSsd Xf K { M with b := mn, c := ml } m1 body f ml) (l2 : LeM m1 mn) : PSd Xf K M m (.While c body [] pos) (sWh fuel bf f) mn := by
  obtain ⟨t, p, d⟩ := hc.ex
  obtain ⟨t2, p2, d2⟩ := hb.ex
  exact ⟨_, fun i => ps_while (FN.ps i) (p i) (p2 i), DS.wh l0 d d2 l2⟩
include F in
theorem ds_setLc [FG : FamG Xf] {wk : Bool} (j : Nat) {x : Str} {py : Pos} {elt : Expr} {ifs : List Expr} {scope : Scope} {tf : Bf} (own : List (Str × Nat)) (hi : PIt Xf K wk m tg iter lf m1) (hg : PGD (blkF Xf scope) K wk (hideM m1 (own.map (·.2))) tg sl gf m2) (ht : PTsD (blkF Xf scope) K m2 ifs tf) (he : PD (blkF Xf scope) K m2 elt ty ef m2)
    (ok : ∀ i, BlkOk (Xf i).N (Xf i).env.scope scope own := by intro _; exact blkOk_by (by rfl)) (us : usB m1 (own.map (·.2)) = true := by rfl) (hs : ∀ j ∈ sl, j ∈ own.map (·.2) := by decide) (le : LeM m2 (hideM m1 (own.map (·.2))) := by repeat (first | exact .nil | refine .cons (by first | exact .rfl _ | exact .u _) ?_))
    (hj : j < m1.length := by first | decide | rfl | simp) (hp : j ∉ M.po := by first | decide | rfl | simp) (hN : ∀ i, (Xf i).N[j]? = some x := by intro _; rfl) (hyl : ∀ i, (Xf i).env.scope.names.lookup x = some .local := by intro _; rfl)
    (hsw : ∀ i, swapsWith (.ListComp elt [⟨tg, iter, ifs, 0⟩] scope pos) (some (.Name x py)) spos.line (Xf i).env = pure true := by intro _; exact sw_true rfl rfl (by rfl) (by rfl))
    (hf : ∀ i x, foldedSetIterable iter (Xf i).env x = pure x := by intro _ _; rfl) : PSd Xf K M m (.Assign [.Name x py] (.ListComp elt [⟨tg, iter, ifs, 0⟩] scope pos) spos) (sAsg j (eLc lf (own.map (·.2)) gf tf ef)) (m1.set j (.l ty)) := by
  obtain ⟨wi, pi, di⟩ := hi.ex
  obtain ⟨g, pg, dg⟩ := hg.ex
  obtain ⟨tt, pt, dt⟩ := ht.ex
  obtain ⟨te, pe, de⟩ := he.ex
  exact ⟨_, fun i => ps_setLc (FG.calm i) (F.nd i) (hN i) (hyl i) (hsw i) (pi i) (ok i) (fun s H C cl fp => pg ⟨i, s, H, C, cl, fp⟩) (fun s H C cl fp => pt ⟨i, s, H, C, cl, fp⟩) (fun s H C cl fp => pe ⟨i, s, H, C, cl, fp⟩) (hf i), DS.asg (DE.lc di dg dt de us hs le) hj hp⟩
end
end DL
namespace DL
open PySem L2 PySem.Spec
def eApp (j : Nat) (f : Ef) : Ef := fun e => (f e).bind fun p => match e.getD j .none with
  | .list ds => if ds.length < sizeLine then some (.none, p.2.set j (.list (ds ++ [p.1]))) else none
  | _ => none
def eAppV (g : Gq) (pt : Pf) (gv : Gq) : Ef := fun e => (g e).bind fun d => (gv e).bind fun x => match d with
  | .list ds => if ds.length < sizeLine then some (.none, pt e (.list (ds ++ [x]))) else none
  | _ => none
def ePop (g : Gq) (pt : Pf) : Ef := fun e => (g e).bind fun d => match d with
  | .list ds => (ds[ds.length - 1]?).map fun x => (x, pt e (.list ds.dropLast))
  | _ => none
def ePopAt (g : Gq) (pt : Pf) (gi : Gq) : Ef := fun e => (g e).bind fun d => (gi e).bind fun i => match d, i with
  | .list ds, .int k => if -(2 ^ 63) ≤ k ∧ k < 2 ^ 63 then (ixN ds.length k).bind fun j => (ds[j]?).map fun x => (x, pt e (.list (ds.eraseIdx j))) else none
  | _, _ => none
def sSet (g : Gq) (pt : Pf) (gi : Gq) (f : Ef) : Sf := fun e => (f e).bind fun p => (g p.2).bind fun d => (gi p.2).bind fun i => match d, i with
  | .list ds, .int k => (ixN ds.length k).map fun j => (.nx, pt p.2 (.list (ds.set j p.1)))
  | _, _ => none
def eItm (g gi : Gq) : Ef := fun e => (g e).bind fun d => (gi e).bind fun i => (itemD d i).map fun x => (x, e)
theorem ite_some2 {α : Type} {c : Prop} [Decidable c] {a : Option α} {b : α} (h : (if c then a else none) = some b) : c ∧ a = some b := by
  split at h
  · rename_i hc; exact ⟨hc, h⟩
  · cases h
section
variable {K : PySem.W.Frag} {G H G1 H1 : Hp} {m m1 m2 mn : List Ty} {σ : St} {e : En} {A A1 : List Addr} {t : Ty} {ts : List Ty}
theorem ownA_erase {ds : List PyData} {vs : List (Option V)} {t : Ty} : ∀ {n : Nat} {ds : List PyData} {vs : List (Option V)} {A : List Addr} {j : Nat} {d : PyData}, OwnA K G H (List.replicate n t) ds vs A → ds[j]? = some d →
    ∃ v Aj A0, vs[j]? = some v ∧ Own K G H t d v Aj ∧ OwnA K G H (List.replicate (n - 1) t) (ds.eraseIdx j) (vs.eraseIdx j) A0 ∧ A.Perm (Aj ++ A0)
  | 0, _, _, _, j, d, h, hd => by cases h; simp at hd
  | n + 1, _, _, _, j, d, h, hd => by
    cases h with
    | @cons _ _ d0 ds v0 vs A B h1 h2 =>
      cases j with
      | zero =>
        simp at hd; subst hd
        exact ⟨v0, A, B, rfl, h1, by simpa using h2, List.Perm.refl _⟩
      | succ j =>
        have hd : ds[j]? = some d := by simpa using hd
        obtain ⟨v, Aj, A0, e1, o1, o2, p⟩ := ownA_erase (ds := ds) (vs := vs) h2 hd
        have hn : 0 < n := by
          have a := (ownA_len h2).1
          rw [List.length_replicate] at a
          have := (List.getElem?_eq_some_iff.mp hd).1
          omega
        refine ⟨v, Aj, A ++ A0, by simpa using e1, o1, ?_, ?_⟩
        · have := OwnA.cons h1 o2
          rw [← List.replicate_succ, show n - 1 + 1 = n by omega] at this
          simpa using this
        · exact (List.Perm.append_left A p).trans (by rw [← List.append_assoc, ← List.append_assoc]; exact List.Perm.append_right _ List.perm_append_comm)
theorem replicate_snoc {n : Nat} {t : Ty} : List.replicate n t ++ [t] = List.replicate (n + 1) t := by rw [List.replicate_succ']
theorem DE.app {te : TE} {f : Ef} {j : Nat} (hm : m[j]? = some (.l t)) (he : DE K (m.set j .u) te t f m1) (hm1 : m1[j]? = some .u) : DE K m (tBM K "list" rAppend (tVar j) (tCons te tNil)) .s (eApp j f) (m1.set j (.l t)) := by
  intro G H σ e A d e' Q st hf k
  obtain ⟨⟨dx, e1⟩, hf1, hf⟩ := oBs hf
  obtain ⟨dj, vj, Aj, A0, h1, h2, h3, h4, hp⟩ := ownA_take st.own hm
  have nd := hp.nodup_iff.mp st.nd
  have st0 : Stt K (m.set j .u) G H σ e A0 := ⟨h4, (List.nodup_append.mp nd).2.1, st.sub⟩
  cases h3 with
  | @l _ a vs ds Ai ga ha hz oi =>
    have ed : e.getD j .none = .list ds := by rw [List.getD_eq_getElem?_getD, h1]; rfl
    rw [ed] at hf
    obtain ⟨hlt, hf⟩ := ite_some hf
    cases hf
    refine ⟨.ref a, h2, .inl ⟨rfl, _, .inl (.inl ha)⟩, ?_⟩
    refine he st0 hf1 fun G1 H1 x Av A1 s1 st1 ov ndv => ?_
    have s0 : Step A G H ((a :: Ai) ++ A0) G H := ⟨Same.refl G, fun _ _ h _ => h, fun b hb => .inl (hp.mem_iff.mpr hb), fun b h ⟨o, z⟩ => by rw [h] at z; cases z⟩
    have oj : Own K G H (.l t) (.list ds) (some (.ref a)) (a :: Ai) := .l ga ha hz oi
    obtain ⟨s2, nd2, hg, hh⟩ := s0.seq (own_at oj) nd s1 ndv
    have ha1 : H1 a = some (.lst vs) := by rw [hh a (List.mem_cons_self ..)]; exact ha
    have ga1 : G1 a = none := hg a (List.mem_cons_self ..)
    have oi1 := ownA_fr oi s1.sg (fun b hb => hg b (List.mem_cons_of_mem _ hb)) fun b hb => hh b (List.mem_cons_of_mem _ hb)
    have len : vs.length = ds.length := by have := (ownA_len oi).2; simpa using this
    refine ⟨a, vs, x, rfl, rfl, ha1, by omega, ?_⟩
    have nda : a ∉ Ai ++ (Av ++ A1) := by
      have := nd2
      rw [List.cons_append] at this
      exact (List.nodup_cons.mp this).1
    have fr : ∀ b, b ≠ a → upd H1 a (.lst (vs ++ [x])) b = H1 b := fun b hb => upd_ne hb
    have ne : ∀ b ∈ Ai ++ (Av ++ A1), b ≠ a := fun b hb z => nda (z ▸ hb)
    have i1 := ownA_fr (H' := upd H1 a (.lst (vs ++ [x]))) oi1 (Same.refl G1) (fun b hb => (ownA_at oi1 b hb).1) fun b hb => fr b (ne b (List.mem_append_left _ hb))
    have i2 := own_fr (H' := upd H1 a (.lst (vs ++ [x]))) ov (Same.refl G1) (fun b hb => (own_at ov b hb).1) fun b hb => fr b (ne b (List.mem_append_right _ (List.mem_append_left _ hb)))
    have i3 := ownA_snoc i1 i2
    rw [replicate_snoc] at i3
    have oN : Own K G1 (upd H1 a (.lst (vs ++ [x]))) (.l t) (.list (ds ++ [dx])) (some (.ref a)) (a :: (Ai ++ Av)) := .l ga1 upd_same (by rw [List.length_append, List.length_singleton]; omega) (by rw [List.length_append, List.length_singleton, List.map_append]; exact i3)
    have i4 := ownA_fr (H' := upd H1 a (.lst (vs ++ [x]))) st1.own (Same.refl G1) (fun b hb => (ownA_at st1.own b hb).1) fun b hb => fr b (ne b (List.mem_append_right _ (List.mem_append_right _ hb)))
    obtain ⟨A2, o2, p2⟩ := ownA_put i4 hm1 oN
    rw [set_id (l := σ) h2] at o2
    have pA : A2.Perm ((a :: Ai) ++ (Av ++ A1)) := p2.trans (List.perm_iff_count.mpr fun z => by simp only [List.count_append, List.count_cons, List.cons_append]; omega)
    refine k G1 _ .non [] A2 ⟨s2.sg, fun b o hb hbA => ?_, fun b hb => s2.own b (pA.mem_iff.mp hb), s2.gnew⟩ ⟨o2, pA.nodup_iff.mpr nd2, fun b o hb => ?_⟩ (.s .non) (pA.nodup_iff.mpr nd2)
    · rw [fr b (fun z => hbA (z ▸ hp.mem_iff.mpr (List.mem_append_left _ (List.mem_cons_self ..))))]
      exact s2.fr b o hb hbA
    · rw [fr b (ne_of_none hb ga1)]; exact st1.sub b o hb
theorem pl_wrote {a : Addr} {Ad Ar Ad' : List Addr} {pt : Pf} {ty : Ty} {d d' : PyData} {H2 : Hp} {u : HO} (st : Stt K m G H σ e A) (hp : A.Perm (Ad ++ Ar)) (o1 : Own K G H ty d (some (.ref a)) Ad)
    (back : ∀ {G' H' : Hp} {d' : PyData} {Ad' : List Addr}, Same G G' → Own K G' H' ty d' (some (.ref a)) Ad' → (∀ b ∈ Ar, H' b = H b ∧ G' b = none) → ∃ A', OwnA K G' H' m (pt e d') σ A' ∧ A'.Perm (Ad' ++ Ar))
    (s : Same H H2) (hin : a ∈ Ad) (o2 : Own K G (upd H2 a u) ty d' (some (.ref a)) Ad') (sub : ∀ b ∈ Ad', b ∈ Ad) (nd' : Ad'.Nodup) :
    ∃ A', Step A G H A' G (upd H2 a u) ∧ Stt K m G (upd H2 a u) σ (pt e d') A' ∧ ∀ b ∈ A', b ∈ Ad' ++ Ar := by
  have nd := hp.nodup_iff.mp st.nd
  have n := List.nodup_append.mp nd
  have ga : G a = none := (own_at o1 a hin).1
  have atA : ∀ b ∈ A, G b = none ∧ ∃ o, H b = some o := ownA_at st.own
  obtain ⟨A', oA, pA⟩ := back (Same.refl G) o2 fun b hb => by
    have hbA := hp.mem_iff.mpr (List.mem_append_right Ad hb)
    obtain ⟨gb, o, ho⟩ := atA b hbA
    refine ⟨?_, gb⟩
    rw [upd_ne (fun z => n.2.2 a hin b hb z.symm), s b o ho, ho]
  have ndA : A'.Nodup := pA.nodup_iff.mpr (List.nodup_append.mpr ⟨nd', n.2.1, fun x hx y hy z => n.2.2 x (sub x hx) y hy z⟩)
  have inA : ∀ b ∈ A', b ∈ A := fun b hb => hp.mem_iff.mpr ((List.mem_append.mp (pA.mem_iff.mp hb)).elim (fun z => List.mem_append_left _ (sub b z)) fun z => List.mem_append_right _ z)
  refine ⟨A', ⟨Same.refl G, fun b o hb hbA => ?_, fun b hb => .inl (inA b hb), fun b h1 ⟨o, h2⟩ => by rw [h1] at h2; cases h2⟩, ⟨oA, ndA, fun b o hb => ?_⟩, fun b hb => pA.mem_iff.mp hb⟩
  · have hne : b ≠ a := fun z => hbA (by rw [z]; exact hp.mem_iff.mpr (List.mem_append_left _ hin))
    rw [upd_ne hne]; exact s b o hb
  · rw [upd_ne (ne_of_none hb ga)]; exact s b o (st.sub b o hb)
theorem DE.pop {te : TE} {g : Gq} {pt : Pf} (hp : DPl K m te (.l t) g pt) : DE K m (tBM0 K "list" rPop te) t (ePop g pt) m := by
  intro G H σ e A d e' Q st hf k
  obtain ⟨dl, h1, hf⟩ := oBs hf
  obtain ⟨a, Ad, Ar, hp1, o1, ev, back⟩ := hp st h1
  have o1' := o1
  cases o1 with
  | @l _ _ vs ds Ai ga ha hz oi =>
    obtain ⟨x, hx, hf⟩ := Option.map_eq_some_iff.mp hf
    cases hf
    have len : vs.length = ds.length := by have := (ownA_len oi).2; simpa using this
    obtain ⟨v, Aj, A0, e1, oj, o0, pj⟩ := ownA_erase (ds := ds) (vs := vs.map some) oi hx
    rw [List.getElem?_map] at e1
    obtain ⟨w, hw, e2⟩ := Option.map_eq_some_iff.mp e1
    subst e2
    refine ev fun H1 s1 => ⟨.inl ⟨rfl, _, .inl (.inl (s1 _ _ ha))⟩, a, vs, w, rfl, rfl, s1 _ _ ha, by rw [len]; exact hw, ?_⟩
    have nd := hp1.nodup_iff.mp st.nd
    have n := List.nodup_append.mp nd
    have n1 := List.nodup_cons.mp n.1
    have n2 := List.nodup_append.mp (pj.nodup_iff.mp n1.2)
    have inI : ∀ b, b ∈ Aj ++ A0 → b ∈ Ai := fun b hb => pj.mem_iff.mpr hb
    have hfr : ∀ b ∈ Ai, upd H1 a (.lst vs.dropLast) b = H b := fun b hb => by
      obtain ⟨_, o, ho⟩ := ownA_at oi b hb
      have hne : b ≠ a := fun z => n1.1 (by rw [← z]; exact hb)
      rw [upd_ne hne, s1 b o ho, ho]
    have gfr : ∀ b ∈ Ai, G b = none := fun b hb => (ownA_at oi b hb).1
    have hne : ds ≠ [] := fun z => by rw [z] at hx; simp at hx
    have edr : ds.eraseIdx (ds.length - 1) = ds.dropLast := by rw [List.eraseIdx_eq_take_drop_succ, show ds.length - 1 + 1 = ds.length by have := List.length_pos_iff.mpr hne; omega, List.drop_length, List.append_nil, ← List.dropLast_eq_take]
    have evr : (vs.map some).eraseIdx (ds.length - 1) = vs.dropLast.map some := by
      rw [← len, List.eraseIdx_eq_take_drop_succ]
      have : vs.length - 1 + 1 = vs.length := by have := List.length_pos_iff.mpr hne; omega
      rw [this, List.drop_eq_nil_of_le (by simp), List.append_nil, List.dropLast_eq_take, List.map_take]
    rw [edr, evr] at o0
    have oN : Own K G (upd H1 a (.lst vs.dropLast)) (.l t) (.list ds.dropLast) (some (.ref a)) (a :: A0) := .l ga upd_same (by rw [List.length_dropLast]; omega) (by
      rw [List.length_dropLast]
      exact ownA_fr o0 (Same.refl G) (fun b hb => gfr b (inI b (List.mem_append_right _ hb))) fun b hb => hfr b (inI b (List.mem_append_right _ hb)))
    obtain ⟨A2, s3, st3, inA⟩ := pl_wrote (u := .lst vs.dropLast) (Ad' := a :: A0) st hp1 o1' back s1 (List.mem_cons_self ..) oN (fun b hb => by
      rcases List.mem_cons.mp hb with z | z
      · rw [z]; exact List.mem_cons_self ..
      · exact List.mem_cons_of_mem _ (inI b (List.mem_append_right _ z))) (List.nodup_cons.mpr ⟨fun z => n1.1 (inI _ (List.mem_append_right _ z)), n2.2.1⟩)
    have oj2 := own_fr (H' := upd H1 a (.lst vs.dropLast)) oj (Same.refl G) (fun b hb => gfr b (inI b (List.mem_append_left _ hb))) fun b hb => hfr b (inI b (List.mem_append_left _ hb))
    refine k G _ w Aj A2 ⟨s3.sg, s3.fr, fun b hb => ?_, s3.gnew⟩ st3 oj2 ?_
    · rcases List.mem_append.mp hb with z | z
      · exact .inl (hp1.mem_iff.mpr (List.mem_append_left _ (List.mem_cons_of_mem _ (inI b (List.mem_append_left _ z)))))
      · exact s3.own b z
    · refine List.nodup_append.mpr ⟨n2.1, st3.nd, fun x hx y hy z => ?_⟩
      subst z
      rcases List.mem_append.mp (inA x hy) with q | q
      · rcases List.mem_cons.mp q with q | q
        · exact n1.1 (q ▸ inI x (List.mem_append_left _ hx))
        · exact n2.2.2 x hx x q rfl
      · exact n.2.2 x (List.mem_cons_of_mem _ (inI x (List.mem_append_left _ hx))) x q rfl
theorem DE.popAt {te ti : TE} {g gi : Gq} {pt : Pf} (hp : DPl K m te (.l t) g pt) (hi : DQv K m ti gi) : DE K m (tBM K "list" rPopAt te (tCons ti tNil)) t (ePopAt g pt gi) m := by
  intro G H σ e A d e' Q st hf k
  obtain ⟨dl, h1, hf⟩ := oBs hf
  obtain ⟨di, h2, hf⟩ := oBs hf
  obtain ⟨a, Ad, Ar, hp1, o1, ev, back⟩ := hp st h1
  have o1' := o1
  cases o1 with
  | @l _ _ vs ds Ai ga ha hz oi =>
    cases di with
    | int i =>
      obtain ⟨hr, hf⟩ := ite_some2 hf
      obtain ⟨j, hj, hf⟩ := oBs hf
      obtain ⟨x, hx, hf⟩ := Option.map_eq_some_iff.mp hf
      cases hf
      have len : vs.length = ds.length := by have := (ownA_len oi).2; simpa using this
      obtain ⟨v, Aj, A0, e1, oj, o0, pj⟩ := ownA_erase (ds := ds) (vs := vs.map some) oi hx
      rw [List.getElem?_map] at e1
      obtain ⟨w, hw, e2⟩ := Option.map_eq_some_iff.mp e1
      subst e2
      refine ev fun H1 s1 => ⟨.inl ⟨rfl, _, .inl (.inl (s1 _ _ ha))⟩, hi (stt_grow st s1).2 h2 fun H2 y s2 qy => ?_⟩
      cases qy
      have s12 := s1.trans s2
      refine ⟨a, vs, i, j, w, rfl, rfl, s12 _ _ ha, hr.1, hr.2, by rw [len]; exact (ixN_seq hj).1, hw, ?_⟩
      have nd := hp1.nodup_iff.mp st.nd
      have n := List.nodup_append.mp nd
      have n1 := List.nodup_cons.mp n.1
      have n2 := List.nodup_append.mp (pj.nodup_iff.mp n1.2)
      have inI : ∀ b, b ∈ Aj ++ A0 → b ∈ Ai := fun b hb => pj.mem_iff.mpr hb
      have hfr : ∀ b ∈ Ai, upd H2 a (.lst (vs.eraseIdx j)) b = H b := fun b hb => by
        obtain ⟨_, o, ho⟩ := ownA_at oi b hb
        have hne : b ≠ a := fun z => n1.1 (by rw [← z]; exact hb)
        rw [upd_ne hne, s12 b o ho, ho]
      have gfr : ∀ b ∈ Ai, G b = none := fun b hb => (ownA_at oi b hb).1
      have hjl : j < ds.length := (List.getElem?_eq_some_iff.mp hx).1
      have evr : (vs.map some).eraseIdx j = (vs.eraseIdx j).map some := by
        rw [List.eraseIdx_eq_take_drop_succ, List.eraseIdx_eq_take_drop_succ, List.map_append, List.map_take, List.map_drop]
      rw [evr] at o0
      have oN : Own K G (upd H2 a (.lst (vs.eraseIdx j))) (.l t) (.list (ds.eraseIdx j)) (some (.ref a)) (a :: A0) := .l ga upd_same (by have := len_erase vs j; omega) (by
        rw [List.length_eraseIdx, if_pos hjl]
        exact ownA_fr o0 (Same.refl G) (fun b hb => gfr b (inI b (List.mem_append_right _ hb))) fun b hb => hfr b (inI b (List.mem_append_right _ hb)))
      obtain ⟨A2, s3, st3, inA⟩ := pl_wrote (u := .lst (vs.eraseIdx j)) (Ad' := a :: A0) st hp1 o1' back s12 (List.mem_cons_self ..) oN (fun b hb => by
        rcases List.mem_cons.mp hb with z | z
        · rw [z]; exact List.mem_cons_self ..
        · exact List.mem_cons_of_mem _ (inI b (List.mem_append_right _ z))) (List.nodup_cons.mpr ⟨fun z => n1.1 (inI _ (List.mem_append_right _ z)), n2.2.1⟩)
      have oj2 := own_fr (H' := upd H2 a (.lst (vs.eraseIdx j))) oj (Same.refl G) (fun b hb => gfr b (inI b (List.mem_append_left _ hb))) fun b hb => hfr b (inI b (List.mem_append_left _ hb))
      refine k G _ w Aj A2 ⟨s3.sg, s3.fr, fun b hb => ?_, s3.gnew⟩ st3 oj2 ?_
      · rcases List.mem_append.mp hb with z | z
        · exact .inl (hp1.mem_iff.mpr (List.mem_append_left _ (List.mem_cons_of_mem _ (inI b (List.mem_append_left _ z)))))
        · exact s3.own b z
      · refine List.nodup_append.mpr ⟨n2.1, st3.nd, fun x hx y hy z => ?_⟩
        subst z
        rcases List.mem_append.mp (inA x hy) with q | q
        · rcases List.mem_cons.mp q with q | q
          · exact n1.1 (q ▸ inI x (List.mem_append_left _ hx))
          · exact n2.2.2 x hx x q rfl
        · exact n.2.2 x (List.mem_cons_of_mem _ (inI x (List.mem_append_left _ hx))) x q rfl
    | _ => cases hf
end
end DL
namespace DL
open PySem L2 PySem.Spec
section
variable {K : PySem.W.Frag} {G H G1 H1 : Hp} {m m1 m2 mn : List Ty} {σ : St} {e : En} {A A1 : List Addr} {t : Ty} {ts : List Ty} {M : Mk}
theorem pl_wrote2 {a : Addr} {Av Ad Ar Ad' : List Addr} {pt : Pf} {ty tv : Ty} {d d' dv : PyData} {v : Option V} {H2 : Hp} {u : HO} (s1 : Step A G H (Av ++ A1) G1 H1) (st : Stt K m G1 H1 σ e A1) (ov : Own K G1 H1 tv dv v Av) (ndv : (Av ++ A1).Nodup) (hp : A1.Perm (Ad ++ Ar)) (o1 : Own K G1 H1 ty d (some (.ref a)) Ad)
    (back : ∀ {G' H' : Hp} {d' : PyData} {Ad' : List Addr}, Same G1 G' → Own K G' H' ty d' (some (.ref a)) Ad' → (∀ b ∈ Ar, H' b = H1 b ∧ G' b = none) → ∃ A', OwnA K G' H' m (pt e d') σ A' ∧ A'.Perm (Ad' ++ Ar))
    (s : Same H1 H2) (hin : a ∈ Ad) (o2 : Own K G1 (upd H2 a u) ty d' (some (.ref a)) Ad') (sub : ∀ b ∈ Ad', b ∈ Av ∨ b ∈ Ad) (nd' : Ad'.Nodup) :
    ∃ A', Step A G H A' G1 (upd H2 a u) ∧ Stt K m G1 (upd H2 a u) σ (pt e d') A' := by
  have nv := List.nodup_append.mp ndv
  have nd := hp.nodup_iff.mp nv.2.1
  have n := List.nodup_append.mp nd
  have ga : G1 a = none := (own_at o1 a hin).1
  have haA : a ∈ A1 := hp.mem_iff.mpr (List.mem_append_left _ hin)
  obtain ⟨A', oA, pA⟩ := back (Same.refl G1) o2 fun b hb => by
    have hbA := hp.mem_iff.mpr (List.mem_append_right Ad hb)
    obtain ⟨gb, o, ho⟩ := ownA_at st.own b hbA
    have hne : b ≠ a := fun z => n.2.2 a hin b hb z.symm
    refine ⟨?_, gb⟩
    rw [upd_ne hne, s b o ho, ho]
  have ndA : A'.Nodup := pA.nodup_iff.mpr (List.nodup_append.mpr ⟨nd', n.2.1, fun x hx y hy z => by
    rcases sub x hx with q | q
    · exact nv.2.2 x q y (hp.mem_iff.mpr (List.mem_append_right _ hy)) z
    · exact n.2.2 x q y hy z⟩)
  have inA : ∀ b ∈ A', b ∈ Av ++ A1 := fun b hb => by
    rcases List.mem_append.mp (pA.mem_iff.mp hb) with z | z
    · rcases sub b z with q | q
      · exact List.mem_append_left _ q
      · exact List.mem_append_right _ (hp.mem_iff.mpr (List.mem_append_left _ q))
    · exact List.mem_append_right _ (hp.mem_iff.mpr (List.mem_append_right _ z))
  refine ⟨A', ⟨s1.sg, fun b o hb hbA => ?_, fun b hb => s1.own b (inA b hb), s1.gnew⟩, ⟨oA, ndA, fun b o hb => ?_⟩⟩
  · have hne : b ≠ a := fun z => by
      rcases s1.own a (List.mem_append_right _ haA) with q | q
      · exact hbA (by rw [z]; exact q)
      · rw [← z, hb] at q; cases q
    rw [upd_ne hne]; exact s b o (s1.fr b o hb hbA)
  · rw [upd_ne (ne_of_none hb ga)]; exact s b o (st.sub b o hb)
theorem own_set {n j : Nat} {ts : List Ty} {ds : List PyData} {vs : List V} {Ai Av : List Addr} {dx : PyData} {x : V} {H3 : Hp} (oi : OwnA K G H ts ds (vs.map some) Ai) (ht : ts[j]? = some t) (ov : Own K G H t dx (some x) Av)
    (hf : ∀ b ∈ Ai, H3 b = H b) (hv : ∀ b ∈ Av, H3 b = H b) : ∃ A2, OwnA K G H3 ts (ds.set j dx) ((vs.set j x).map some) A2 ∧ ∃ A0 Aj : List Addr, A2.Perm (Av ++ A0) ∧ Ai.Perm (Aj ++ A0) := by
  obtain ⟨d0, v0, Aj, A0, e1, e2, oj, oR, pj⟩ := ownA_take oi ht
  have hu : (ts.set j .u)[j]? = some .u := by rw [List.getElem?_set_self (List.getElem?_eq_some_iff.mp ht).1]
  have inI : ∀ b ∈ A0, b ∈ Ai := fun b hb => pj.mem_iff.mpr (List.mem_append_right _ hb)
  obtain ⟨A2, o2, p2⟩ := ownA_put (ownA_fr (H' := H3) oR (Same.refl G) (fun b hb => (ownA_at oi b (inI b hb)).1) fun b hb => hf b (inI b hb)) hu (own_fr (H' := H3) ov (Same.refl G) (fun b hb => (own_at ov b hb).1) hv)
  rw [List.set_set, set_id ht] at o2
  exact ⟨A2, by rw [List.map_set]; exact o2, A0, Aj, p2, pj⟩
theorem DS.setL {tv to ti : TE} {f : Ef} {g gi : Gq} {pt : Pf} (hv : DE K m tv t f m1) (hp : DPl K m1 to (.l t) g pt) (hi : DQv K m1 ti gi) (pn : ∀ {σ : St}, Pin M.po σ σ) : DS K M m (tAsg tv (L2.gSub to ti rSetL)) (sSet g pt gi f) m1 := by
  intro G H σ e A o e' D st hf k
  obtain ⟨⟨dx, e1⟩, hf0, hf⟩ := oBs hf
  obtain ⟨dl, h1, hf⟩ := oBs hf
  obtain ⟨di, h2, hf⟩ := oBs hf
  refine hv st hf0 fun G1 H1 x Av A1 s1 st1 ov ndv => ?_
  obtain ⟨a, Ad, Ar, hp1, o1, ev, back⟩ := hp st1 h1
  have o1' := o1
  cases o1 with
  | @l _ _ vs ds Ai ga ha hz oi =>
    cases di with
    | int i =>
      obtain ⟨j, hj, hf⟩ := Option.map_eq_some_iff.mp hf
      cases hf
      have len : vs.length = ds.length := by have := (ownA_len oi).2; simpa using this
      have hjl : j < ds.length := (ixN_seq hj).2.1
      refine ev fun H2 sH2 => hi (stt_grow st1 sH2).2 h2 fun H3 y sH3 qy => ?_
      cases qy
      have s13 := sH2.trans sH3
      refine ⟨a, vs, i, j, rfl, rfl, s13 _ _ ha, by rw [len]; exact hj, ?_⟩
      have nv := List.nodup_append.mp ndv
      have nd := hp1.nodup_iff.mp nv.2.1
      have n := List.nodup_append.mp nd
      have n1 := List.nodup_cons.mp n.1
      have haA : a ∈ A1 := hp1.mem_iff.mpr (List.mem_append_left _ (List.mem_cons_self ..))
      have fr1 : ∀ b, b ≠ a → (∃ o, H1 b = some o) → upd H3 a (.lst (vs.set j x)) b = H1 b := fun b hb ⟨o, ho⟩ => by rw [upd_ne hb, s13 b o ho, ho]
      obtain ⟨A2, o2, A0, Aj, p2, pj⟩ := own_set (n := 0) (H3 := upd H3 a (.lst (vs.set j x))) oi (repl_get hjl) ov (fun b hb => fr1 b (fun z => n1.1 (by rw [← z]; exact hb)) (ownA_at oi b hb).2)
        (fun b hb => fr1 b (fun z => nv.2.2 b hb a haA z) (own_at ov b hb).2)
      have nj := List.nodup_append.mp (pj.nodup_iff.mp n1.2)
      have in2 : ∀ b ∈ A2, b ∈ Av ∨ b ∈ Ai := fun b hb => (List.mem_append.mp (p2.mem_iff.mp hb)).imp id fun z => pj.mem_iff.mpr (List.mem_append_right _ z)
      have nd2 : A2.Nodup := p2.nodup_iff.mpr (List.nodup_append.mpr ⟨nv.1, nj.2.1, fun x hx y hy z => nv.2.2 x hx y (hp1.mem_iff.mpr (List.mem_append_left _ (List.mem_cons_of_mem _ (pj.mem_iff.mpr (List.mem_append_right _ hy))))) z⟩)
      obtain ⟨A', s4, st4⟩ := pl_wrote2 (u := .lst (vs.set j x)) (Ad' := a :: A2) s1 st1 ov ndv hp1 o1' back s13 (List.mem_cons_self ..) (.l ga upd_same (by rw [List.length_set]; exact hz) (by rw [List.length_set]; exact o2)) (fun b hb => by
        rcases List.mem_cons.mp hb with z | z
        · rw [z]; exact .inr (List.mem_cons_self ..)
        · exact (in2 b z).imp id fun z => List.mem_cons_of_mem _ z) (List.nodup_cons.mpr ⟨fun z => by
          rcases in2 a z with q | q
          · exact nv.2.2 a q a haA rfl
          · exact n1.1 q, nd2⟩)
      exact k G1 _ σ A' s4 st4 pn
    | _ => cases hf
theorem DS.setR {tv to ti : TE} {f : Ef} {g gi : Gq} {pt : Pf} {c : Nat} (hv : DE K m tv t f m1) (hp : DPl K m1 to (.r ts) g pt) (hi : DQv K m1 ti gi) (hc : ∀ e, gi e = some (.int (c : Nat))) (ht : ts[c]? = some t) (pn : ∀ {σ : St}, Pin M.po σ σ) : DS K M m (tAsg tv (L2.gSub to ti rSetL)) (sSet g pt gi f) m1 := by
  intro G H σ e A o e' D st hf k
  obtain ⟨⟨dx, e1⟩, hf0, hf⟩ := oBs hf
  obtain ⟨dl, h1, hf⟩ := oBs hf
  obtain ⟨di, h2, hf⟩ := oBs hf
  refine hv st hf0 fun G1 H1 x Av A1 s1 st1 ov ndv => ?_
  obtain ⟨a, Ad, Ar, hp1, o1, ev, back⟩ := hp st1 h1
  have o1' := o1
  cases o1 with
  | @r _ _ vs ds Ai ga ha hz oi =>
    rw [hc] at h2; cases h2
    obtain ⟨j, hj, hf⟩ := Option.map_eq_some_iff.mp hf
    cases hf
    have hjk : j = c := by
      have q := ixN_seq hj
      have q1 := q.1
      rw [seqIndex_of (by omega) (by omega)] at q1
      have := Option.some.inj q1
      omega
    subst hjk
    have len : vs.length = ds.length := by have := (ownA_len oi).2; simpa using this
    refine ev fun H2 sH2 => hi (stt_grow st1 sH2).2 (hc e1) fun H3 y sH3 qy => ?_
    cases qy
    have s13 := sH2.trans sH3
    refine ⟨a, vs, _, j, rfl, rfl, s13 _ _ ha, by rw [len]; exact hj, ?_⟩
    have nv := List.nodup_append.mp ndv
    have nd := hp1.nodup_iff.mp nv.2.1
    have n := List.nodup_append.mp nd
    have n1 := List.nodup_cons.mp n.1
    have haA : a ∈ A1 := hp1.mem_iff.mpr (List.mem_append_left _ (List.mem_cons_self ..))
    have fr1 : ∀ b, b ≠ a → (∃ o, H1 b = some o) → upd H3 a (.lst (vs.set j x)) b = H1 b := fun b hb ⟨o, ho⟩ => by rw [upd_ne hb, s13 b o ho, ho]
    obtain ⟨A2, o2, A0, Aj, p2, pj⟩ := own_set (n := 0) (H3 := upd H3 a (.lst (vs.set j x))) oi ht ov (fun b hb => fr1 b (fun z => n1.1 (by rw [← z]; exact hb)) (ownA_at oi b hb).2)
      (fun b hb => fr1 b (fun z => nv.2.2 b hb a haA z) (own_at ov b hb).2)
    have nj := List.nodup_append.mp (pj.nodup_iff.mp n1.2)
    have in2 : ∀ b ∈ A2, b ∈ Av ∨ b ∈ Ai := fun b hb => (List.mem_append.mp (p2.mem_iff.mp hb)).imp id fun z => pj.mem_iff.mpr (List.mem_append_right _ z)
    have nd2 : A2.Nodup := p2.nodup_iff.mpr (List.nodup_append.mpr ⟨nv.1, nj.2.1, fun x hx y hy z => nv.2.2 x hx y (hp1.mem_iff.mpr (List.mem_append_left _ (List.mem_cons_of_mem _ (pj.mem_iff.mpr (List.mem_append_right _ hy))))) z⟩)
    obtain ⟨A', s4, st4⟩ := pl_wrote2 (u := .lst (vs.set j x)) (Ad' := a :: A2) s1 st1 ov ndv hp1 o1' back s13 (List.mem_cons_self ..) (.r ga upd_same (by rw [List.length_set]; exact hz) o2) (fun b hb => by
      rcases List.mem_cons.mp hb with z | z
      · rw [z]; exact .inr (List.mem_cons_self ..)
      · exact (in2 b z).imp id fun z => List.mem_cons_of_mem _ z) (List.nodup_cons.mpr ⟨fun z => by
        rcases in2 a z with q | q
        · exact nv.2.2 a q a haA rfl
        · exact n1.1 q, nd2⟩)
    exact k G1 _ σ A' s4 st4 pn
theorem DE.itm {te ti : TE} {g gi : Gq} {pt : Pf} (hp : DPl K m te (.l .s) g pt) (hi : DQv K m ti gi) : DE K m (tOp (rIxL K) te ti) .s (eItm g gi) m := by
  intro G H σ e A d e' Q st hf k
  obtain ⟨dl, h1, hf⟩ := oBs hf
  obtain ⟨di, h2, hf⟩ := oBs hf
  obtain ⟨a, Ad, Ar, hp1, o1, ev, back⟩ := hp st h1
  cases o1 with
  | @l _ _ vs ds Ai ga ha hz oi =>
    cases di with
    | int i =>
      obtain ⟨x, hx, hf⟩ := Option.map_eq_some_iff.mp hf
      cases hf
      obtain ⟨j, hj, hx⟩ := oBs (show (ixN ds.length i).bind _ = _ from hx)
      obtain ⟨rfl, qi⟩ := of_ownA oi
      obtain ⟨v, hv, qv⟩ := qi.get hx
      refine ev fun H1 s1 => hi (stt_grow st s1).2 h2 fun H2 y s2 qy => ?_
      cases qy
      have s12 := s1.trans s2
      exact ⟨a, vs, i, v, rfl, rfl, .inl (.inl (s12 _ _ ha)), by unfold atI; rw [qi.1, hj]; exact hv, k G H2 v [] A (stt_grow st s12).1 (stt_grow st s12).2 (.s qv) st.nd⟩
    | _ => cases hf
end
section
variable {ι : Type} {Xf : ι → Cx} {P : Program} {w : World} {K : PySem.W.Frag} {mg : Str → Option Value} {base : Heap} {n : Nat} [F : Fam Xf P w K mg base n]
variable {M : Mk} {m m1 m2 mn ml : List Ty} {pos p p2 spos apos cpos : Pos} {a b c v o i : Expr} {f : Ef} {g gi gv : Gq} {pt : Pf} {t ty : Ty} {ts : List Ty}
include F
theorem pd_itm (hp : PPl Xf K m a (.l .s) g pt) (hi : PQ Xf K m b gi) (hs : PlainIx b := by exact fun _ _ => rfl) : PD Xf K m (.Subscript a b pos) .s (eItm g gi) m := by
  obtain ⟨ta, pa, da⟩ := hp.ex
  obtain ⟨tb, pb, db⟩ := hi.ex
  exact ⟨_, fun i => by have := pe_ix (ix_list (X := Xf i)) (pa i) (pb i) hs (pos := pos); rw [F.kk i] at this; exact this, DE.itm da db⟩
theorem pd_app (j : Nat) {x : Str} {xp : Pos} (hv0 : PD Xf K (m.set j .u) v t f m1) (hm : m[j]? = some (.l t) := by rfl) (hm1 : m1[j]? = some .u := by rfl) (hN : ∀ i, (Xf i).N[j]? = some x := by intro _; rfl)
    (hv : ∀ i, Vis (Xf i).env.scope x := by first | (intro _; exact Or.inl rfl) | (intro _; exact Or.inr (Or.inl rfl)) | (intro _; exact Or.inr (Or.inr rfl))) (hd : (x == ("__debug__" : Str)) = false := by decide) (hcd : (x == ("__classdict__" : Str)) = false := by decide)
    (hbase : ∀ i, attributeBase (.Name x xp) "append" (Xf i).env (eval (.Name x xp) (Xf i).env) = eval (.Name x xp) (Xf i).env := by intro _; rfl)
    (hfew : ∀ i, ((backTo cpos (starEach [v] (Xf i).env)).all (fun x => !x.1) && (backToKw cpos (keywordEach [] (Xf i).env)).all (fun x => x.1.isSome)
      && decide ([v].length + ([] : List Keyword).length + (if ([] : List Keyword).isEmpty then 0 else 1) < 30)) = true := by intro _; rfl)
    (hline : (apos.endLine == cpos.line) = true := by rfl) (hs : ∀ i, starEach [v] (Xf i).env = (false, eval v (Xf i).env) :: starEach [] (Xf i).env := by intro _; rfl) (hplain : ∀ i, (backTo cpos (starEach [] (Xf i).env)).any (·.1) = false := by intro _; rfl) :
    PD Xf K m (.Call (.Attribute (.Name x xp) "append" apos) [v] [] cpos) .s (eApp j f) (m1.set j (.l t)) := by
  obtain ⟨tv, pv, dv⟩ := hv0.ex
  exact ⟨_, fun i => by have := pe_bm PySem.F.plainAttrs_list PySem.F.slot_list_append PySem.F.type_list_append (mt_append (X := Xf i)) (pe_var (hN i) (hv i) hd hcd) (pa_cons (pv i) pa_nil (hs i)) (hbase i) (hfew i) hline (hs i) (hplain i); rw [F.kk i] at this; exact this, DE.app hm dv hm1⟩
theorem pd_popAt (hp : PPl Xf K m o (.l t) g pt) (hi : PQ Xf K m v gi) (hbase : ∀ i, attributeBase o "pop" (Xf i).env (eval o (Xf i).env) = eval o (Xf i).env := by intro _; rfl)
    (hfew : ∀ i, ((backTo cpos (starEach [v] (Xf i).env)).all (fun x => !x.1) && (backToKw cpos (keywordEach [] (Xf i).env)).all (fun x => x.1.isSome)
      && decide ([v].length + ([] : List Keyword).length + (if ([] : List Keyword).isEmpty then 0 else 1) < 30)) = true := by intro _; rfl)
    (hline : (apos.endLine == cpos.line) = true := by rfl) (hs : ∀ i, starEach [v] (Xf i).env = (false, eval v (Xf i).env) :: starEach [] (Xf i).env := by intro _; rfl) (hplain : ∀ i, (backTo cpos (starEach [] (Xf i).env)).any (·.1) = false := by intro _; rfl) :
    PD Xf K m (.Call (.Attribute o "pop" apos) [v] [] cpos) t (ePopAt g pt gi) m := by
  obtain ⟨ta, pa, da⟩ := hp.ex
  obtain ⟨tv, pv, dv⟩ := hi.ex
  exact ⟨_, fun i => by have := pe_bm PySem.F.plainAttrs_list PySem.F.slot_list_pop PySem.F.type_list_pop (mt_popAt (X := Xf i)) (pa i) (pa_cons (pv i) pa_nil (hs i)) (hbase i) (hfew i) hline (hs i) (hplain i); rw [F.kk i] at this; exact this, DE.popAt da dv⟩
theorem ds_setL (hv : PD Xf K m v t f m1) (hp : PPl Xf K m1 o (.l t) g pt) (hi : PQ Xf K m1 i gi)
    (ha : ∀ z v, assign (.Subscript o i pos) (Xf z).env v = (do
      let ov ← holding [v] (eval o (Xf z).env)
      let iv ← holding [v, ov] (eval i (Xf z).env)
      standAt pos
      holding [v, ov, iv] (setItem ov iv v)
      release [v, ov, iv] []) := by intro _ _; rfl)
    (hs : ∀ z, swapsWithSole [.Subscript o i pos] v spos.line (Xf z).env = pure false := by intro _; rfl) (hw : ∀ z, swappedStores [.Subscript o i pos] v (Xf z).env = pure none := by intro _; rfl)
    (h1 : ∀ z, (assignEach [.Subscript o i pos] (Xf z).env).map (·.2) = [assign (.Subscript o i pos) (Xf z).env] := by intro _; rfl) : PSd Xf K M m (.Assign [.Subscript o i pos] v spos) (sSet g pt gi f) m1 := by
  obtain ⟨tv, pv, dv⟩ := hv.ex
  obtain ⟨ta, pa, da⟩ := hp.ex
  obtain ⟨tb, pb, db⟩ := hi.ex
  exact ⟨_, fun z => ps_asg (pv z) (pg_sub (pa z) (pb z) set_list (ha z)) (hs z) (hw z) (h1 z), DS.setL dv da db Pin.refl⟩
theorem ds_setR (c : Nat) {ci : Int} {cj} (hv : PD Xf K m v t f m1) (hp : PPl Xf K m1 o (.r ts) g pt) (hc : ci = (c : Nat) := by rfl) (ht : ts[c]? = some t := by rfl)
    (ha : ∀ z v, assign (.Subscript o (.Constant (.int ci) cj p) pos) (Xf z).env v = (do
      let ov ← holding [v] (eval o (Xf z).env)
      let iv ← holding [v, ov] (eval (.Constant (.int ci) cj p) (Xf z).env)
      standAt pos
      holding [v, ov, iv] (setItem ov iv v)
      release [v, ov, iv] []) := by intro _ _; rfl)
    (hs : ∀ z, swapsWithSole [.Subscript o (.Constant (.int ci) cj p) pos] v spos.line (Xf z).env = pure false := by intro _; rfl) (hw : ∀ z, swappedStores [.Subscript o (.Constant (.int ci) cj p) pos] v (Xf z).env = pure none := by intro _; rfl)
    (h1 : ∀ z, (assignEach [.Subscript o (.Constant (.int ci) cj p) pos] (Xf z).env).map (·.2) = [assign (.Subscript o (.Constant (.int ci) cj p) pos) (Xf z).env] := by intro _; rfl) : PSd Xf K M m (.Assign [.Subscript o (.Constant (.int ci) cj p) pos] v spos) (sSet g pt (qC (.int ci)) f) m1 := by
  obtain ⟨tv, pv, dv⟩ := hv.ex
  obtain ⟨ta, pa, da⟩ := hp.ex
  obtain ⟨tb, pb, db⟩ := (pq_int (Xf := Xf) (K := K) (m := m1) (i := ci) (j := cj) (pos := p)).ex
  exact ⟨_, fun z => ps_asg (pv z) (pg_sub (pa z) (pb z) set_list (ha z)) (hs z) (hw z) (h1 z), DS.setR dv da db (fun e => by subst hc; rfl) ht Pin.refl⟩
end
end DL
namespace DL
open PySem L2 PySem.Spec
section
variable {ι : Type} {Xf : ι → Cx} {P : Program} {w : World} {K : PySem.W.Frag} {mg : Str → Option Value} {base : Heap} {n : Nat} [F : Fam Xf P w K mg base n]
variable {m m1 m2 m3 : List Ty} {pos p p2 : Pos} {a b c tg : Expr} {f g h : Ef}
theorem own_q {K : PySem.W.Frag} {G H : Hp} {d : PyData} {v : Option V} {A : List Addr} (o : Own K G H .q d v A) : A = [] ∧ ∃ (a : Addr) (ns : List Int), v = some (.ref a) ∧ d = .list (ns.map .int) ∧ SqL K G a (ns.map V.int) ∧ ns.length ≤ sizeLine := by
  cases o with
  | q h hz => exact ⟨rfl, _, _, rfl, rfl, h, hz⟩
theorem dqA_nums {K : PySem.W.Frag} {G : Hp} : ∀ ns : List Int, DqA K G (ns.map V.int) (ns.map PyData.int)
  | [] => DqA.nil
  | i :: ns => DqA.cons (.int i) (dqA_nums ns)
def eLenQ (j : Nat) : Ef := fun e => match e.getD j .none with
  | .list ds => some (.int ds.length, e)
  | _ => none
include F in
theorem pd_lenQ (j : Nat) {x : Str} (hml : mg "len" = none) (hm : m[j]? = some .q := by rfl) (hN : ∀ i, (Xf i).N[j]? = some x := by intro _; rfl)
    (hv : ∀ i, Vis (Xf i).env.scope x := by first | (intro _; exact Or.inl rfl) | (intro _; exact Or.inr (Or.inl rfl)) | (intro _; exact Or.inr (Or.inr rfl))) (hd : (x == ("__debug__" : Str)) = false := by decide)
    (hcd : (x == ("__classdict__" : Str)) = false := by decide) (hg : ∀ i, Gl (Xf i) "len" := by intro _; rfl) (he : ∀ i, starEach [.Name x p2] (Xf i).env = (false, eval (.Name x p2) (Xf i).env) :: starEach [] (Xf i).env := by intro _; rfl) (hpl : ∀ i, (backTo pos (starEach [] (Xf i).env)).any (·.1) = false := by intro _; rfl) :
    PD Xf K m (.Call (.Name "len" p) [.Name x p2] [] pos) .s (eLenQ j) m := by
  refine ⟨_, fun i => (by have := pe_callB (X := Xf i) (pos := pos) (p := p) (call_len_seq (X := Xf i)) (hg i) (by rw [F.mg_ i]; exact hml) bt_len (pa_cons (pe_var (pos := p2) (hN i) (hv i) hd hcd) pa_nil (he i)) (by decide) (by decide) (he i) (hpl i); rw [F.kk i] at this; exact this), fun {G H σ e A d e' Q} st hf k => ?_⟩
  obtain ⟨d', v, Aj, A0, h1, h2, h3, _, _⟩ := ownA_take st.own hm
  obtain ⟨_, a, ns, rfl, rfl, hq, hz⟩ := own_q h3
  unfold eLenQ at hf
  rw [List.getD_eq_getElem?_getD, h1] at hf
  cases hf
  refine ⟨.ref a, h2, a, _, rfl, .inl (same_seqL st.sub hq), ?_⟩
  have e : (((ns.map V.int).length : Nat) : Int) = (((ns.map PyData.int).length : Nat) : Int) := by rw [List.length_map, List.length_map]
  rw [e]
  exact ans_s st (.int _) k
def eSlQ (j : Nat) (lo hi : Option Int) : Ef := fun e => (gSlL (e.getD j .none) lo hi).map fun d => (d, e)
end
def stb : Ty → Bool
  | .u => true
  | .s => true
  | .q => true
  | .f _ _ => true
  | .x _ _ _ => true
  | _ => false
inductive FinOk (po : List Nat) : Nat → List Ty → List Ty → Prop
  | nil (j : Nat) (m : List Ty) : FinOk po j [] m
  | stb {j : Nat} {t t' : Ty} {ts m : List Ty} : stb t = true → FinOk po (j + 1) ts m → FinOk po j (t :: ts) (t' :: m)
  | own {j : Nat} {t : Ty} {ts m : List Ty} : j ∈ po → FinOk po (j + 1) ts m → FinOk po j (t :: ts) (t :: m)
def fins : List Ty → List PyData → List PyData → List PyData
  | t :: ts, d :: ds, e :: es => (if stb t = true then d else e) :: fins ts ds es
  | _, _, _ => []
def runF (f : Sf) (ptys : List Ty) (r : Nat) : DFn := fun ds => (f (ds ++ List.replicate r .none)).bind fun p => match p.1 with
  | .rt d => some (d, fins ptys ds p.2)
  | .nx => some (.none, fins ptys ds p.2)
  | _ => none
section
variable {K : PySem.W.Frag} {G H G1 H1 : Hp}
theorem own_stb {t : Ty} {d : PyData} {v : Option V} {A : List Addr} (o : Own K G H t d v A) (h : stb t = true) : A = [] := by
  cases o with
  | u => rfl
  | s => rfl
  | q => rfl
  | d => cases h
  | t => cases h
  | o => cases h
  | f => rfl
  | x => rfl
  | e => cases h
  | k => cases h
  | a => cases h
  | l => cases h
  | r => cases h
theorem fin_own {po : List Nat} {σ0 σ : St} : ∀ {j : Nat} {ts m : List Ty} {ds e : List PyData} {vs : List (Option V)} {A0 A : List Addr} {τ : List (Option V)}, FinOk po j ts m → OwnA K G H ts ds vs A0 → Same G G1 → OwnA K G1 H1 m e τ A → (∀ i, τ[i]? = σ[j + i]?) → (∀ i v, vs[i]? = some v → σ0[j + i]? = some v) → Pin po σ0 σ → A.Nodup →
    ∃ A3, OwnA K G1 H1 ts (fins ts ds e) vs A3 ∧ A3.Nodup ∧ ∀ a ∈ A3, a ∈ A := by
  intro j ts
  induction ts generalizing j with
  | nil =>
    intro m ds e vs A0 A τ fo o0 sg o h1 h2 hp nd
    cases o0
    exact ⟨[], .nil, List.nodup_nil, fun a h => by cases h⟩
  | cons t ts ih =>
    intro m ds e vs A0 A τ fo o0 sg o h1 h2 hp nd
    cases o0 with
    | @cons _ _ d ds v vs B0 B1 p1 p2 =>
      have h2' : ∀ i x, vs[i]? = some x → σ0[j + 1 + i]? = some x := fun i x hx => by
        have := h2 (i + 1) x (by simpa using hx)
        rw [show j + 1 + i = j + (i + 1) by omega]; exact this
      cases fo with
      | stb hs fo =>
        cases o with
        | @cons _ _ d' ds' v' vs' C0 C1 q1 q2 =>
          have h1' : ∀ i, vs'[i]? = σ[j + 1 + i]? := fun i => by
            have := h1 (i + 1)
            rw [show j + 1 + i = j + (i + 1) by omega, ← this]; simp
          obtain ⟨A3, o3, n3, s3⟩ := ih fo p2 sg q2 h1' h2' hp (List.nodup_append.mp nd).2.1
          obtain rfl := own_stb p1 hs
          refine ⟨A3, ?_, n3, fun a ha => List.mem_append_right _ (s3 a ha)⟩
          unfold fins
          rw [if_pos hs]
          exact OwnA.cons (A := []) (own_fr p1 sg (fun a h => by cases h) fun a h => by cases h) o3
      | own hj fo =>
        cases o with
        | @cons _ _ d' ds' v' vs' C0 C1 q1 q2 =>
          have h1' : ∀ i, vs'[i]? = σ[j + 1 + i]? := fun i => by
            have := h1 (i + 1)
            rw [show j + 1 + i = j + (i + 1) by omega, ← this]; simp
          have n := List.nodup_append.mp nd
          obtain ⟨A3, o3, n3, s3⟩ := ih fo p2 sg q2 h1' h2' hp n.2.1
          have ev : v' = v := by
            have a := h1 0
            have b := h2 0 v rfl
            have c := hp j hj
            simp only [Nat.add_zero] at a b
            rw [← a, b] at c
            simpa using c
          subst ev
          by_cases hs : stb t = true
          · obtain rfl := own_stb p1 hs
            refine ⟨A3, ?_, n3, fun a ha => List.mem_append_right _ (s3 a ha)⟩
            unfold fins
            rw [if_pos hs]
            exact OwnA.cons (A := []) (own_fr p1 sg (fun a h => by cases h) fun a h => by cases h) o3
          · refine ⟨C0 ++ A3, ?_, List.nodup_append.mpr ⟨n.1, n3, fun a ha b hb z => n.2.2 a ha b (s3 b hb) z⟩, fun a ha => ?_⟩
            · unfold fins
              rw [if_neg hs]
              exact OwnA.cons q1 o3
            · rcases List.mem_append.mp ha with z | z
              · exact List.mem_append_left _ z
              · exact List.mem_append_right _ (s3 a z)
theorem ownA_us {ts : List Ty} {ds : List PyData} {vs : List (Option V)} {A : List Addr} (r : Nat) (h : OwnA K G H ts ds vs A) : OwnA K G H (ts ++ List.replicate r .u) (ds ++ List.replicate r .none) (vs ++ List.replicate r none) A := by
  induction ts generalizing ds vs A with
  | nil =>
    cases h
    simp only [List.nil_append]
    induction r with
    | zero => exact .nil
    | succ r ih => rw [List.replicate_succ, List.replicate_succ, List.replicate_succ]; exact OwnA.cons (A := []) (.u _ _) ih
  | cons t ts ih =>
    cases h with
    | cons h1 h2 => exact .cons h1 (ih h2)
end
def NoNx (f : Sf) : Prop := ∀ e e', f e ≠ some (.nx, e')
theorem nnx_ret {f : Ef} : NoNx (sRet f) := fun e e' h => by
  obtain ⟨p, _, h⟩ := Option.map_eq_some_iff.mp h
  cases h
theorem nnx_seq {f g : Sf} (h : NoNx g) : NoNx (sSeq f g) := fun e e' z => by
  obtain ⟨⟨o, e1⟩, _, z⟩ := oBs z
  cases o with
  | nx => exact h _ _ z
  | bk => cases z
  | ct => cases z
  | rt d => cases z
abbrev oneX (X : Cx) : Unit → Cx := fun _ => X
theorem fam_one {P : Program} {w : World} {K : PySem.W.Frag} {mg : Str → Option Value} {base : Heap} {N ps : List Str} {qual : Str} {scope : Scope} {f : Addr} {cdv : Value} {A : Around} {outer : List Env} {s : Shared} {H : Hp} {E : XK} {n : Nat} (S : FnScope N ps scope)
    (hr : Room n (A.deeper (PyProof.Rows.envOfC qual scope s.heap.objs.size f cdv))) : Fam (oneX (cxOf CX0 P w K mg base N qual scope f cdv A outer s H E).nox) P w K mg base n :=
  ⟨fun _ => rfl, fun _ => rfl, fun _ => rfl, fun _ => rfl, fun _ => rfl, fun _ => hr.u, fun _ => S.nd⟩
theorem fnG_dl {P : Program} {w : World} {K : PySem.W.Frag} {mg : Str → Option Value} {base : Heap} {x qual : Str} {st : Stmt} {f : Addr} {fd : FuncData} {N ps : List Str} {k : Nat} {ptys : List Ty} {rty : Ty} {sf : Sf} {mr : List Ty} {po : List Nat} {r : Nat}
    (F : L2.Fun K x qual st f fd) (S : FnScope N ps (defScope st)) (hl : ptys.length = ps.length) (hr : N.length = ps.length + r) (fo : FinOk po 0 ptys mr) (hty : rty = .s ∨ ∀ e e', sf e ≠ some (.nx, e'))
    (hbody : ∀ (cdv : Value) (A : Around) (outer : List Env) (s : Shared) (H : Hp) (E : XK), Fam (oneX (cxOf CX0 P w K mg base N qual (defScope st) f cdv A outer s H E).nox) P w K mg base k → FamG (oneX (cxOf CX0 P w K mg base N qual (defScope st) f cdv A outer s H E).nox) → FamN (oneX (cxOf CX0 P w K mg base N qual (defScope st) f cdv A outer s H E).nox) →
      PSsd (oneX (cxOf CX0 P w K mg base N qual (defScope st) f cdv A outer s H E).nox) K ⟨[], [], mr, po, rty⟩ (ptys ++ List.replicate r .u) (defBody st) sf mr) : FnG P w K mg base (k + 1) f fd ps (spD K ptys rty (runF sf ptys r)) := by
  refine fnG_of F S (fun vs H Q E h => ?_) fun cdv A outer s H vs Q E room gd h => ?_
  · obtain ⟨ds, d, fs, G, A, _, o, _⟩ := h
    have := ownA_len o
    rw [List.length_map] at this
    omega
  · obtain ⟨ds, d, fs, G, A0, hF, o0, nd, sub, kont⟩ := h
    have ln := ownA_len o0
    rw [List.length_map] at ln
    obtain ⟨t, pt, dt⟩ := (hbody cdv A outer s H E (fam_one S room) ⟨fun _ => gd, fun _ => rfl, fun _ => room.hd⟩ ⟨fun _ => PassesOwn.never⟩).ex
    refine ⟨t, pt (), ?_⟩
    obtain ⟨⟨o, e'⟩, h1, h2⟩ := oBs hF
    have hst : L2.start N vs = vs.map some ++ List.replicate r none := by
      unfold L2.start
      rw [show N.length - vs.length = r by omega]
    have st0 : Stt K (ptys ++ List.replicate r .u) G H (L2.start N vs) (ds ++ List.replicate r .none) A0 := ⟨by rw [hst]; exact ownA_us r o0, nd, sub⟩
    refine dt st0 h1 ?_
    have fin : ∀ {G' H' : Hp} {σ' : St} {A' : List Addr}, Same G G' → Stt K mr G' H' σ' e' A' → Pin po (L2.start N vs) σ' → ∃ A3, OwnA K G' H' ptys (fins ptys ds e') (vs.map some) A3 ∧ A3.Nodup ∧ ∀ a ∈ A3, a ∈ A' := fun {G' H' σ' A'} sg st' pn =>
      fin_own (j := 0) fo o0 sg st'.own (fun i => by rw [Nat.zero_add]) (fun i v hv => by
        rw [Nat.zero_add, hst, List.getElem?_append_left (List.getElem?_eq_some_iff.mp hv).1]; exact hv) pn st'.nd
    cases o with
    | nx =>
      cases h2
      rcases hty with hty | hty
      · subst hty
        exact fun G' H' σ' A' s' st' pn => by
          obtain ⟨A3, o3, n3, s3⟩ := fin s'.sg st' pn
          exact kont G' H' .non [] A3 (s'.less s3) o3 (.s .non) n3 st'.sub
      · exact absurd h1 (hty _ _)
    | bk => cases h2
    | ct => cases h2
    | rt d1 =>
      cases h2
      intro G' H' σ' v Av A' s' st' ov ndv pn
      obtain ⟨A3, o3, n3, s3⟩ := fin s'.sg st' pn
      have n := List.nodup_append.mp ndv
      refine kont G' H' v Av A3 (s'.less fun a ha => ?_) o3 ov (List.nodup_append.mpr ⟨n.1, n3, fun a ha b hb z => n.2.2 a ha b (s3 b hb) z⟩) st'.sub
      rcases List.mem_append.mp ha with z | z
      · exact List.mem_append_left _ z
      · exact List.mem_append_right _ (s3 a z)
end DL
namespace DL
open PySem L2 PySem.Spec PyProof.Rows
def hScr (K : PySem.W.Frag) (a : Addr) (u : HO) : Hp := fun b => if b = a ∧ K.lookup a = none then some u else none
theorem hScr_some {K : PySem.W.Frag} {a b : Addr} {u z : HO} (h : hScr K a u b = some z) : b = a ∧ K.lookup a = none ∧ z = u := by
  unfold hScr at h
  split at h
  · rename_i c; exact ⟨c.1, c.2, (Option.some.inj h).symm⟩
  · cases h
theorem hScr_none {K : PySem.W.Frag} {a b : Addr} {u : HO} (h : b ≠ a ∨ K.lookup a ≠ none) : hScr K a u b = none := by
  unfold hScr
  rw [if_neg]
  rintro ⟨c1, c2⟩
  exact h.elim (fun z => z c1) fun z => z c2
section
variable {P : Program} {w : World} {K : PySem.W.Frag} {mg mb : Str → Option Value} {k : Nat} {fa a : Addr} {fd : FuncData} {x : Str} {s₁ : Shared} {vs : List Value} {ns : List Int} {Fn : DFn}
theorem scr_env (KX : K.In s₁.heap) (hns : s₁.heap.Ns mainGlobals mg) (hb : s₁.heap.Ns builtinsNs mb) (hbb : ∀ x : Str, x ≠ "__name__" → mb x = bootBuiltins x) (hlim : s₁.heap.NoLimit) (hg : s₁.gens = #[])
    {ob : Obj} {u : HO} (ha : s₁.heap.get? a = some ob) (hd : ∀ es ep, ob.data ≠ .dict es ep) (hu : ∀ H, ObjOk P w H s₁.heap a u) :
    K.In (hidT s₁.heap (hScr K a u)) ∧ (hidT s₁.heap (hScr K a u)).Ns mainGlobals mg ∧ Env0 P w K mg (hidT s₁.heap (hScr K a u)) callerA [] s₁ (hScr K a u) := by
  have up : ∀ {b : Addr} {o : Obj}, s₁.heap.get? b = some o → (b ≠ a ∨ K.lookup a ≠ none) → (hidT s₁.heap (hScr K a u)).get? b = some o := fun e n => hidT_get e (hScr_none n)
  have ns' : ∀ {b : Addr} {m : Str → Option Value}, s₁.heap.Ns b m → (hidT s₁.heap (hScr K a u)).Ns b m := by
    rintro b m ⟨o, es, ep, e, d, r⟩
    refine ⟨o, es, ep, up e (.inl fun z => ?_), d, r⟩
    subst z
    rw [ha] at e
    exact hd es ep ((Option.some.inj e) ▸ d)
  have kin : K.In (hidT s₁.heap (hScr K a u)) := fun b o e => up (KX b o e) (by
    by_cases z : b = a
    · subst z; exact .inr (by rw [e]; exact fun q => by cases q)
    · exact .inl z)
  obtain ⟨mc, hl1, hl2⟩ := hlim
  refine ⟨kin, ns' hns, rfl, ⟨kin, ns' hns, ⟨mb, ns' hb, hbb⟩, mc, ns' hl1, hl2⟩, fun b o e => of_hidT e, Nat.le_of_eq (hidT_size _ _), trivial, fun b hb => ?_, fun b z hz => ?_, .of_eq hg⟩
  · cases hb
  · obtain ⟨rfl, _, rfl⟩ := hScr_some hz
    exact hu _
theorem law_callG (KX : K.In s₁.heap) (hns : s₁.heap.Ns mainGlobals mg) (hb : s₁.heap.Ns builtinsNs mb) (hbb : ∀ x : Str, x ≠ "__name__" → mb x = bootBuiltins x) (hlim : s₁.heap.NoLimit) (hg : s₁.gens = #[])
    (ha : s₁.heap.get? a = some { cls := .type "list", data := .seq vs.toArray }) (hi : IntsAre vs ns) (hl : ns.length ≤ sizeLine) (hr : Room k callerA)
    (F : ∀ base : Heap, K.In base → base.Ns mainGlobals mg → FnG P w K mg base k fa fd [x] (spD K [.q] .s Fn)) (hbind : ∀ (s : Shared) (u : Value), BindsTo s fd ⟨[u], []⟩ [(x, u)])
    (hF : ∃ fs, Fn [.list (ns.map .int)] = some (.bool true, fs)) :
    codeAny (model P w) callerA (.call (.ref fa) ⟨[.ref a], []⟩) (fun r s' => r = .ok (.ret (.bool true)) ∧ OldK s₁.heap s'.heap ∧ s'.os = s₁.os ∧ AllBare s'.gens) s₁ := by
  obtain ⟨fs, hF⟩ := hF
  have rv := vals_ints hi
  have okA : ∀ H, ObjOk P w H s₁.heap a (.frz { cls := .type "list", data := .seq vs.toArray } (.lst (ns.map V.int))) := fun H => ⟨ha, by rw [List.length_map]; exact hl, vs, _, rv, ha⟩
  obtain ⟨k1, k2, e0⟩ := scr_env KX hns hb hbb hlim hg ha (fun es ep z => by cases z) okA
  have hS : SqL K (hScr K a (.frz { cls := .type "list", data := .seq vs.toArray } (.lst (ns.map V.int)))) a (ns.map V.int) := by
    cases hk : K.lookup a with
    | none => exact .inl (.inr ⟨_, if_pos ⟨rfl, hk⟩⟩)
    | some o =>
      have e := KX a o hk
      rw [ha] at e
      cases e
      exact .inr ⟨_, vs.toArray, _, hk, rfl, rfl, rfl, by rw [List.size_toArray, hi.length]; exact hl, by simpa using rv⟩
  refine codeAny_mono ((F _ k1 k2).run callerA [] s₁ _ ⟨[.ref a], []⟩ [.ref a] [.ref a] (fun v _ => v = .bl true) E0 hr rfl e0 (hbind s₁ (.ref a)) (.cons rfl .nil)
    ⟨_, _, fs, _, [], hF, OwnA.cons (A := []) (.q hS hl) .nil, List.nodup_nil, Same.refl _, fun G' H' v Av A' _ _ o _ _ => by
      cases o with
      | s q => cases q; rfl⟩) fun r s' h => ?_
  cases r with
  | error e => exact False.elim h
  | ok fl =>
    cases fl with
    | ret u =>
      obtain ⟨v, H', os, bare, un, hok', r', q⟩ := h
      cases q
      obtain rfl : u = Value.bool true := r'
      refine ⟨rfl, OldK.of_keep fun b o e => ?_, os, bare⟩
      cases hq : hScr K a (.frz { cls := .type "list", data := .seq vs.toArray } (.lst (ns.map V.int))) b with
      | none => exact un.keep b o e hq (fun z => by cases z) (by simp)
      | some z =>
        obtain ⟨rfl, _, rfl⟩ := hScr_some hq
        rw [ha] at e
        rw [← e]
        exact (hok' b _ (un.frzs b _ _ hq)).1
    | next => exact False.elim h
    | brk => exact False.elim h
    | cont => exact False.elim h
end
end DL
namespace DL
open PySem L2 PySem.Spec PyProof.Rows
class IsaOk (T : String) (p : outParam (PyData → Bool)) : Prop where
  non : kitB "NoneType" T = some (p .none)
  bl : ∀ b, kitB "bool" T = some (p (.bool b))
  int : ∀ i, kitB "int" T = some (p (.int i))
  str : ∀ x, kitB "str" T = some (p (.str x))
  lst : ∀ xs, kitB "list" T = some (p (.list xs))
  tup : ∀ xs, kitB "tuple" T = some (p (.tuple xs))
  dic : ∀ kvs : List (Str × Int), kitB "dict" T = some (p (.dict (kvs.map fun q => (.str q.1, .int q.2))))
  dv : ∀ (k : Str) (d : PyData), kitB "dict" T = some (p (.dict [(.str k, d)]))
  ob : ∀ o cn ns ds, p (obD o cn ns ds) = false
  mem : T ∈ obTys
instance : IsaOk "int" PyData.isInt := ⟨(by decide +kernel : kitB "NoneType" "int" = some false), fun _ => (by decide +kernel : kitB "bool" "int" = some true), fun _ => (by decide +kernel : kitB "int" "int" = some true), fun _ => (by decide +kernel : kitB "str" "int" = some false), fun _ => (by decide +kernel : kitB "list" "int" = some false), fun _ => (by decide +kernel : kitB "tuple" "int" = some false), fun _ => (by decide +kernel : kitB "dict" "int" = some false), fun _ _ => (by decide +kernel : kitB "dict" "int" = some false), fun _ _ _ _ => rfl, by decide⟩
instance : IsaOk "bool" PyData.isBool := ⟨(by decide +kernel : kitB "NoneType" "bool" = some false), fun _ => (by decide +kernel : kitB "bool" "bool" = some true), fun _ => (by decide +kernel : kitB "int" "bool" = some false), fun _ => (by decide +kernel : kitB "str" "bool" = some false), fun _ => (by decide +kernel : kitB "list" "bool" = some false), fun _ => (by decide +kernel : kitB "tuple" "bool" = some false), fun _ => (by decide +kernel : kitB "dict" "bool" = some false), fun _ _ => (by decide +kernel : kitB "dict" "bool" = some false), fun _ _ _ _ => rfl, by decide⟩
instance : IsaOk "str" PyData.isStr := ⟨(by decide +kernel : kitB "NoneType" "str" = some false), fun _ => (by decide +kernel : kitB "bool" "str" = some false), fun _ => (by decide +kernel : kitB "int" "str" = some false), fun _ => (by decide +kernel : kitB "str" "str" = some true), fun _ => (by decide +kernel : kitB "list" "str" = some false), fun _ => (by decide +kernel : kitB "tuple" "str" = some false), fun _ => (by decide +kernel : kitB "dict" "str" = some false), fun _ _ => (by decide +kernel : kitB "dict" "str" = some false), fun _ _ _ _ => rfl, by decide⟩
instance : IsaOk "list" PyData.isList := ⟨(by decide +kernel : kitB "NoneType" "list" = some false), fun _ => (by decide +kernel : kitB "bool" "list" = some false), fun _ => (by decide +kernel : kitB "int" "list" = some false), fun _ => (by decide +kernel : kitB "str" "list" = some false), fun _ => (by decide +kernel : kitB "list" "list" = some true), fun _ => (by decide +kernel : kitB "tuple" "list" = some false), fun _ => (by decide +kernel : kitB "dict" "list" = some false), fun _ _ => (by decide +kernel : kitB "dict" "list" = some false), fun _ _ _ _ => rfl, by decide⟩
instance : IsaOk "tuple" PyData.isTuple := ⟨(by decide +kernel : kitB "NoneType" "tuple" = some false), fun _ => (by decide +kernel : kitB "bool" "tuple" = some false), fun _ => (by decide +kernel : kitB "int" "tuple" = some false), fun _ => (by decide +kernel : kitB "str" "tuple" = some false), fun _ => (by decide +kernel : kitB "list" "tuple" = some false), fun _ => (by decide +kernel : kitB "tuple" "tuple" = some true), fun _ => (by decide +kernel : kitB "dict" "tuple" = some false), fun _ _ => (by decide +kernel : kitB "dict" "tuple" = some false), fun _ _ _ _ => rfl, by decide⟩
theorem isDct_kvs (kvs : List (Str × Int)) : isDct (.dict (kvs.map fun q => (.str q.1, .int q.2))) = true := by
  match kvs with
  | [] => rfl
  | [_] => rfl
  | _ :: _ :: _ => rfl
instance : IsaOk "dict" isDct := ⟨(by decide +kernel : kitB "NoneType" "dict" = some false), fun _ => (by decide +kernel : kitB "bool" "dict" = some false), fun _ => (by decide +kernel : kitB "int" "dict" = some false), fun _ => (by decide +kernel : kitB "str" "dict" = some false), fun _ => (by decide +kernel : kitB "list" "dict" = some false), fun _ => (by decide +kernel : kitB "tuple" "dict" = some false), fun kvs => by rw [isDct_kvs]; exact (by decide +kernel : kitB "dict" "dict" = some true), fun _ _ => (by decide +kernel : kitB "dict" "dict" = some true), fun _ _ _ _ => rfl, by decide⟩
instance : IsaOk "set" PyData.isSet := ⟨(by decide +kernel : kitB "NoneType" "set" = some false), fun _ => (by decide +kernel : kitB "bool" "set" = some false), fun _ => (by decide +kernel : kitB "int" "set" = some false), fun _ => (by decide +kernel : kitB "str" "set" = some false), fun _ => (by decide +kernel : kitB "list" "set" = some false), fun _ => (by decide +kernel : kitB "tuple" "set" = some false), fun _ => (by decide +kernel : kitB "dict" "set" = some false), fun _ _ => (by decide +kernel : kitB "dict" "set" = some false), fun _ _ _ _ => rfl, by decide⟩
theorem dq_ty1 {K : PySem.W.Frag} {H : Hp} {x : V} {d : PyData} {T : String} {p : PyData → Bool} (ok : IsaOk T p) (q : Dq K H x d) : ∃ t : Value, TyX K H x t ∧ PySem.W.kitOne K t (.type T) = some (p d) := by
  cases q with
  | non => exact ⟨_, .base .non, kit_ty ok.non⟩
  | bl b => exact ⟨_, .base (.bl b), kit_ty (ok.bl b)⟩
  | int i => exact ⟨_, .base (.int i), kit_ty (ok.int i)⟩
  | str x hx => exact ⟨_, .base (.str x), kit_ty (ok.str x)⟩
  | lst h _ _ _ =>
    rcases h with h | ⟨o, h⟩
    · exact ⟨_, .base (.lst h), kit_ty (ok.lst _)⟩
    · exact ⟨_, .base (.frz h), kit_ty (ok.lst _)⟩
  | tup h _ _ _ =>
    rcases h with ⟨o, _, _, h⟩ | ⟨o, its, n, h1, h2, _⟩
    · exact ⟨_, .fTuple h, kit_ty (ok.tup _)⟩
    · exact ⟨_, .kTuple h1 h2, kit_ty (ok.tup _)⟩
  | dic h _ _ =>
    rcases h with h | ⟨o, h⟩
    · exact ⟨_, .base (.dK h), kit_ty (ok.dic _)⟩
    · exact ⟨_, .fDict h, kit_ty (ok.dic _)⟩
  | dv h _ _ =>
    rcases h with h | ⟨o, h⟩
    · exact ⟨_, .base (.dK h), kit_ty (ok.dv _ _)⟩
    · exact ⟨_, .fDict h, kit_ty (ok.dv _ _)⟩
  | ob o cn c h _ _ _ => exact ⟨_, .base (.ins h c.cl c.ca c.cg c.ct c.cm), by rw [ok.ob]; exact c.ty T ok.mem⟩
def gIsa (p : PyData → Bool) (d : PyData) : Option PyData := some (.bool (p d))
def rIsaD (K : PySem.W.Frag) (T : String) (p : PyData → Bool) : List V → Hp → VK → Prop := fun vs H Q => ∃ x d, vs = [x, .ty T] ∧ Dq K H x d ∧ Q (.bl (p d)) H
theorem call_isaD {X : Cx} {T : String} {p : PyData → Bool} (h : IsaOk T p) : CallR X (.builtin "isinstance") (rIsaD X.K T p) := by
  intro pins s σ H vs us Q I r hq
  obtain ⟨x, d, rfl, q, k⟩ := hq
  obtain ⟨t, ty, e⟩ := dq_ty1 h q
  exact call_isi pins s σ H _ us Q I r ⟨x, .ty T, t, .type T, p d, rfl, .ty T, ty, e, k⟩
section
variable {ι : Type} {Xf : ι → Cx} {P : Program} {w : World} {K : PySem.W.Frag} {mg : Str → Option Value} {base : Heap} {n : Nat} [F : Fam Xf P w K mg base n]
variable {m m1 m2 m3 : List Ty} {pos p p2 : Pos} {a b c tg : Expr} {f g h : Ef} {fq : Gq}
include F in
theorem pd_isa (T : String) {pp : PyData → Bool} {x : Str} [ok : IsaOk T pp] (hm : mg "isinstance" = none) (hmT : mg x = none) (hv : bootBuiltins x = some (.type T)) (ha : PD Xf K m a .s f m1) (hg : ∀ i, Gl (Xf i) "isinstance" := by intro _; rfl) (hgT : ∀ i, Gl (Xf i) x := by intro _; rfl) (hn : x ≠ "__name__" := by decide) (hdb : (x == ("__debug__" : Str)) = false := by decide)
    (he : ∀ i, starEach [a, .Name x p2] (Xf i).env = (false, eval a (Xf i).env) :: starEach [.Name x p2] (Xf i).env := by intro _; rfl) (he2 : ∀ i, starEach [.Name x p2] (Xf i).env = (false, eval (.Name x p2) (Xf i).env) :: starEach [] (Xf i).env := by intro _; rfl) (hpl : ∀ i, (backTo pos (starEach [.Name x p2] (Xf i).env)).any (·.1) = false := by intro _; rfl) :
    PD Xf K m (.Call (.Name "isinstance" p) [a, .Name x p2] [] pos) .s (e1 (gIsa pp) f) m1 := by
  obtain ⟨ta, pa, da⟩ := ha.ex
  refine ⟨_, fun i => (by have := pe_callB (pos := pos) (p := p) (call_isaD (X := Xf i) ok) (hg i) (by rw [F.mg_ i]; exact hm) bt_isinstance (pa_cons (pa i) (pa_cons (pe_bltn (v := .ty T) (pos := p2) (hgT i) (by rw [F.mg_ i]; exact hmT) hv rfl hn hdb) pa_nil (he2 i)) (he i)) (by decide) (by decide) (he i) (hpl i); rw [F.kk i] at this; exact this), fun {G H σ e A d e' Q} st hf k => ?_⟩
  unfold e1 at hf
  obtain ⟨⟨d1, e1⟩, hf1, hf⟩ := oBs hf
  obtain ⟨d3, hf3, hf⟩ := oBs hf
  cases hf3
  cases hf
  refine da st hf1 fun G1 H1 v1 A1 B1 s1 st1 o1 nd1 => ?_
  cases o1 with
  | s q1 => exact ⟨v1, d1, rfl, q1.mono st1.sub, k G1 H1 _ [] B1 s1 st1 (.s (.bl _)) st1.nd⟩
include F in
theorem pd_gint {x : Str} {i : Int} {t : Tok} (hm : mg x = some (.int i t)) (hg : ∀ i, Gl (Xf i) x := by intro _; rfl) (hd : (x == ("__debug__" : Str)) = false := by decide) : PD Xf K m (.Name x pos) .s (eC (.int i)) m :=
  ⟨_, fun j => pe_glob (v := .int i) (hg j) (by rw [F.mg_ j]; exact hm) ⟨t, rfl⟩ hd, fun {G H σ e A d e' Q} st hf k => by cases hf; exact ans_s st (.int i) k⟩
def rSortD (K : PySem.W.Frag) : List V → Hp → VK → Prop := fun vs H Q => ∃ a xs ds G, vs = [.ref a] ∧ Same G H ∧ SqL K H a xs ∧ DqA K G xs ds ∧ sortOk ds = true ∧ xs.length ≤ sizeLine ∧ ∀ p ys, H p = none → DqA K G ys (ds.mergeSort (PySem.W.dataLe false id)) → Q (.ref p) (upd H p (.lst ys))
theorem each_of {X : Cx} {H : Hp} : ∀ {xs : List V} {ds : List PyData} {its : List Value}, DqA X.K H xs ds → Vals xs its → PySem.W.EachIs (fun u d => ∃ v, RelV v u ∧ Dq X.K H v d) its ds
  | [], [], _, _, .nil => .nil
  | x :: xs, d :: ds, _, q, .cons r t => .cons ⟨x, r, q.head⟩ (each_of q.tail t)
  | [], _ :: _, _, q, _ => by have := q.1; simp at this
  | _ :: _, [], _, q, _ => by have := q.1; simp at this
theorem of_each {X : Cx} {H : Hp} {its : List Value} {ds : List PyData} (h : PySem.W.EachIs (fun u d => ∃ v, RelV v u ∧ Dq X.K H v d) its ds) : ∃ xs, Vals xs its ∧ DqA X.K H xs ds := by
  induction h with
  | nil => exact ⟨[], .nil, DqA.nil⟩
  | cons h _ ih =>
    obtain ⟨v, r, q⟩ := h
    obtain ⟨xs, r2, q2⟩ := ih
    exact ⟨v :: xs, .cons r r2, DqA.cons q q2⟩
theorem depth_mem {x : PyData} {xs : List PyData} (h : x ∈ xs) : x.depth ≤ PyData.depthAll xs := depthAll_mem h
theorem each_reads {X : Cx} {pins : List (Addr × Obj)} {σ : L2.St} {H G : Hp} {s : Shared} (I : L2.Inv X pins σ H s) (sg : Same G H) {xs : List V} {ds : List PyData} (q : DqA X.K G xs ds) {its : List Value} (rv : Vals xs its) (al : ∀ x ∈ ds, ∀ y ∈ ds, PySem.W.alike x y = true) : PySem.W.EachIs (fun v b => ∃ as, Reads s.heap v (id b) as) its ds := by
  have e := each_of q rv
  revert al
  clear q rv
  induction e with
  | nil => intro _; exact .nil
  | cons h _ ih =>
    intro al
    obtain ⟨v, r, q⟩ := h
    exact .cons ((q.mono sg).reads I (alike_noOb _ (al _ (List.mem_cons_self ..) _ (List.mem_cons_self ..))) r) (ih fun x hx y hy => al x (List.mem_cons_of_mem _ hx) y (List.mem_cons_of_mem _ hy))
theorem call_sortD {X : Cx} {n : Nat} (hr : Room n X.A) : CallR X (.builtin "sorted") (rSortD X.K) := by
  intro pins s σ H vs us Q I r hq
  obtain ⟨a, xs, ds, G, rfl, sg, hs, q, ok, hz, k⟩ := hq
  rw [Vals.ref1 r]
  obtain ⟨its, rv, hL, _⟩ := I.list hs
  unfold sortOk at ok
  simp only [Bool.and_eq_true, List.all_eq_true, decide_eq_true_eq, Bool.or_eq_true] at ok
  have er : PySem.W.EachIs (fun v b => ∃ as, Reads s.heap v (id b) as) its ds := each_reads I sg q rv ok.1.1
  refine PySem.W.sorted_data (enc := id) hL.isList (each_of q rv) er (fun x hx y hy => ?_) ?_ (by rw [← q.1]; exact hz) (fun b hb => ?_) fun out hl eo => ?_
  · rw [List.map_id] at hx hy
    exact ok.1.1 x hx y hy
  · rw [List.map_id]
    rcases ok.1.2 with h | h
    · refine .inl fun d hd => ?_
      have := h d hd
      split at this
      · exact ⟨_, _, rfl⟩
      · cases this
    · refine .inr fun d hd => ⟨fun e => ?_, fun xs e => ?_⟩
      · have := h d hd; subst e; cases this
      · have := h d hd; subst e; cases this
  · have := hr.un
    have h1 : (id b : PyData).depth ≤ PyData.depthAll ds := depth_mem hb
    have h2 := ok.2
    omega
  · obtain ⟨ys, r2, q2⟩ := of_each eo
    obtain ⟨ep, he'⟩ := sortedAll_at s.heap its out.toArray
    have hlen : ys.length ≤ sizeLine := by
      have := q.1
      rw [r2.length, hl]; omega
    exact ⟨.ref _, upd H (s.heap.objs.size + 1) (.lst ys), I.laid (t' := s.toks) (fun _ _ => sortedAll_old) (Nat.le_succ _) ⟨hlen, out, ep, r2, by simpa using he'⟩, rfl, k _ ys (I.hok.fresh (Nat.le_succ _)) q2⟩
end
end DL
namespace DL
open PySem PySem.Calls PyProof.Rows L2
section
variable {prog : Program} {w : World} {A : Around} {E : Value → Shared → Prop} {s : Shared}
theorem collect_tup {b : Addr} {us : List Value} {R : List Value → Shared → Prop} (hb : PyProof.Rows.IsTup s.heap b us.toArray)
    (hR : R us { s with heap := (s.heap.push (seqObj "list" #[] 0)).update s.heap.objs.size (Obj.mapSeq (· ++ us.toArray)) }) (hz : us.length ≤ sizeLine) :
    wpAny (model prog w) A (collect (.ref b)) R E s := by
  obtain ⟨ob, hob, hcl, nn, hdat⟩ := id hb
  unfold collect
  refine wpAny_bind (wpAny_runValue (codeAny_builtin entry_proto_collect' ?_))
  show wpAny _ _ (do again (.builtin "list.__iadd__" ⟨[← newList [], .ref b], []⟩)) _ _ s
  refine wpAny_bind (wpAny_newList (wpAny_pure ⟨Code.quiet_builtin _ (by decide +kernel), codeAny_builtin entry_list_iadd' ?_⟩))
  show wpAny _ _ (Builtin.List.listExtendWith (.ref s.heap.objs.size) (.ref b) (.ref s.heap.objs.size)) _ _ { s with heap := s.heap.push (seqObj "list" #[] 0) }
  unfold Builtin.List.listExtendWith
  have hob' : (s.heap.push (seqObj "list" #[] 0)).get? b = some ob := Heap.get?_push_of_some _ hob
  refine wpAny_bind (wpAny_typeOf (T := "tuple") ⟨ob, hob', hcl⟩ ?_)
  have ty1 : (Value.type "tuple" == Value.type "tuple") = true := by rfl
  rw [if_pos (by rw [ty1]; simp)]
  refine wpAny_bind (listItems_at hob' hdat ?_)
  refine wpAny_bind (listItems_at (n := 0) (xs := #[]) (Heap.get?_push_size _ rfl) rfl ?_)
  rw [if_neg (by simp)]
  refine wpAny_bind (listUpdate_at (n := 0) (xs := #[]) (Heap.get?_push_size _ rfl) rfl ?_ (Nat.zero_le _) (by
    show (#[] ++ us.toArray).size ≤ sizeLine + 1
    simp; omega))
  refine wpAny_pure ?_
  refine wpAny_bind (wpAny_load (get?_update_seq (Heap.get?_push_size _ rfl) _) ?_)
  have eus : ((#[] : Array Value) ++ us.toArray).toList = us := by simp
  show wpAny _ _ (pure ((#[] : Array Value) ++ us.toArray).toList) R E _
  rw [eus]
  exact wpAny_pure hR
theorem sorted_of_tup {b : Addr} {us : List Value} {R : Value → Shared → Prop} (hb : PyProof.Rows.IsTup s.heap b us.toArray) (hz : us.length ≤ sizeLine)
    (body : ∀ E' : Value → Shared → Prop, wpAny (model prog w) A.in1.in1 (Builtin.«list.sort» ⟨[.ref (s.heap.objs.size + 1)], []⟩) (fun f s' => f = .done (.ret .none) ∧ R (.ref (s.heap.objs.size + 1)) s') E' { s with heap := PySem.W.copyHeap s.heap us }) :
    wpAny (model prog w) A (call (.builtin "sorted") [.ref b]) R E s := by
  refine call_function_entry kind_sorted plain_sorted entry_sorted (args_sorted1 _) ?_
  unfold Builtin.«sorted»
  refine wpAny_bind (m := checkCount "sorted" 1 1 _) (wpAny_pure ?_)
  refine wpAny_bind (collect_tup hb ?_ hz)
  refine wpAny_bind (wpAny_newList ?_ hz)
  have e1 : ((s.heap.push (seqObj "list" #[] 0)).update s.heap.objs.size (Obj.mapSeq (· ++ us.toArray))).objs.size = s.heap.objs.size + 1 := by
    rw [Heap.size_update, size_push']
  show wpAny _ _ _ _ _ { s with heap := PySem.W.copyHeap s.heap us }
  rw [e1]
  refine wpAny_bind (wpAny_holding (wpAny_call_entry_kw slot_list_sort ⟨_, PySem.W.copyHeap_at s.heap us, rfl⟩ entry_list_sort ?fin (args_list_sort _)))
  case fin =>
    show wpAny (model prog w) A.in1.in1 (Builtin.«list.sort» ⟨[.ref (s.heap.objs.size + 1)], []⟩) _ _ _
    refine wpAny_mono (body _) (fun f s' hf => ?_) fun _ _ e => e
    obtain ⟨rfl, hq⟩ := hf
    exact ⟨_, rfl, wpAny_pure ⟨_, rfl, hq⟩⟩
open PySem.W in
theorem sorted_dataT {β : Type} {us : List Value} {bs : List β} {enc : β → PyData} {R : Value → β → Prop} {l : Addr} {Q : Value → Shared → Prop} (hl : PyProof.Rows.IsTup s.heap l us.toArray) (e : EachIs R us bs) (er : EachIs (fun v b => ∃ as, Reads s.heap v (enc b) as) us bs) (hal : AllAlike (bs.map enc)) (hk : Sortable (bs.map enc)) (hL : bs.length ≤ sizeLine)
    (hu : ∀ b, b ∈ bs → A.units + 2 + (enc b).depth < cLine) (h : ∀ out, out.length = bs.length → EachIs R out (bs.mergeSort (dataLe false enc)) → Q (.ref (s.heap.objs.size + 1)) { s with heap := sortedAll s.heap us (List.toArray out) }) :
    wpAny (model prog w) A (call (.builtin "sorted") [.ref l]) Q E s := by
  have er' : EachIs (fun v b => ∃ as, Reads (sortingHeap (copyHeap s.heap us) (s.heap.objs.size + 1) us) v (enc b) as) us bs := er.mono fun _ _ ⟨as, r⟩ => ⟨as, PyProof.Rows.Reads.keeps (fun _ _ => sorting_copy_old) r⟩
  have hus : us.length ≤ sizeLine := by rw [e.length]; exact hL
  have S := SortsAt.data (prog := prog) (w := w) (A := A.in1.in1) (s := { s with heap := sortingHeap (copyHeap s.heap us) (s.heap.objs.size + 1) us }) (each_map (R := fun v d => ∃ as, Reads (sortingHeap (copyHeap s.heap us) (s.heap.objs.size + 1) us) v d as) enc er') hal hk (bound_map hu)
  refine sorted_of_tup hl hus fun _ => list_sort_vals (s := { s with heap := copyHeap s.heap us }) (copyHeap_at s.heap us) S hus ⟨rfl, ?_⟩
  exact h _ (by rw [sortVals_length false rfl]; exact e.length) (sortVals_data false e er' hal)
end
end DL
namespace DL
open PySem L2 PySem.Spec
def rSortT (K : PySem.W.Frag) : List V → Hp → VK → Prop := fun vs H Q => ∃ a xs ds G, vs = [.ref a] ∧ Same G H ∧ SqT K H a xs ∧ DqA K G xs ds ∧ sortOk ds = true ∧ xs.length ≤ sizeLine ∧ ∀ p ys, H p = none → DqA K G ys (ds.mergeSort (PySem.W.dataLe false id)) → Q (.ref p) (upd H p (.lst ys))
theorem call_sortT {X : Cx} {n : Nat} (hr : Room n X.A) : CallR X (.builtin "sorted") (rSortT X.K) := by
  intro pins s σ H vs us Q I r hq
  obtain ⟨a, xs, ds, G, rfl, sg, hs, q, ok, hz, k⟩ := hq
  rw [Vals.ref1 r]
  obtain ⟨its, rv, hT, _⟩ := I.tuple hs
  unfold sortOk at ok
  simp only [Bool.and_eq_true, List.all_eq_true, decide_eq_true_eq, Bool.or_eq_true] at ok
  have er : PySem.W.EachIs (fun v b => ∃ as, Reads s.heap v (id b) as) its ds := each_reads I sg q rv ok.1.1
  refine sorted_dataT (enc := id) hT (each_of q rv) er (fun x hx y hy => ?_) ?_ (by rw [← q.1]; exact hz) (fun b hb => ?_) fun out hl eo => ?_
  · rw [List.map_id] at hx hy
    exact ok.1.1 x hx y hy
  · rw [List.map_id]
    rcases ok.1.2 with h | h
    · refine .inl fun d hd => ?_
      have := h d hd
      split at this
      · exact ⟨_, _, rfl⟩
      · cases this
    · refine .inr fun d hd => ⟨fun e => ?_, fun xs e => ?_⟩
      · have := h d hd; subst e; cases this
      · have := h d hd; subst e; cases this
  · have := hr.un
    have h1 : (id b : PyData).depth ≤ PyData.depthAll ds := depth_mem hb
    have h2 := ok.2
    omega
  · obtain ⟨ys, r2, q2⟩ := of_each eo
    obtain ⟨ep, he'⟩ := PyProof.Rows.sortedAll_at s.heap its out.toArray
    have hlen : ys.length ≤ sizeLine := by
      have := q.1
      rw [r2.length, hl]; omega
    exact ⟨.ref _, upd H (s.heap.objs.size + 1) (.lst ys), I.laid (t' := s.toks) (fun _ _ => PyProof.Rows.sortedAll_old) (Nat.le_succ _) ⟨hlen, out, ep, r2, by simpa using he'⟩, rfl, k _ ys (I.hok.fresh (Nat.le_succ _)) q2⟩
section
variable {ι : Type} {Xf : ι → Cx} {P : Program} {w : World} {K : PySem.W.Frag} {mg : Str → Option Value} {base : Heap} {n : Nat} [F : Fam Xf P w K mg base n]
include F in
theorem clSorted [FG : FamG Xf] : Cl1 Xf K (.builtin "sorted") (.l .s) gSorted := by
  refine ⟨fun vs H Q => rSortD K vs H Q ∨ rSortT K vs H Q, fun i => by
    have c1 := call_sortD (X := Xf i) (rmOf F FG i)
    have c2 := call_sortT (X := Xf i) (rmOf F FG i)
    rw [F.kk i] at c1 c2
    exact CallR.or c1 c2, fun {m G H σ e A x dx d Q} st hx ee k => ?_⟩
  unfold gSorted at ee
  split at ee
  · obtain ⟨h1, rfl⟩ := ite_some ee
    obtain ⟨a, xs, rfl, r1, z1, q1⟩ := dq_lst hx
    refine .inl ⟨a, xs, _, G, rfl, st.sub, .inl (same_rd st.sub r1), q1, h1, z1, fun p ys hp q => ?_⟩
    have hy : ys.length ≤ sizeLine := by rw [q.1, List.length_mergeSort, ← q1.1]; exact z1
    exact ans_lst st q hy k p hp
  · obtain ⟨h1, rfl⟩ := ite_some ee
    obtain ⟨a, xs, rfl, r1, z1, q1⟩ := dq_tup hx
    refine .inr ⟨a, xs, _, G, rfl, st.sub, same_seqT st.sub r1, q1, h1, z1, fun p ys hp q => ?_⟩
    have hy : ys.length ≤ sizeLine := by rw [q.1, List.length_mergeSort, ← q1.1]; exact z1
    exact ans_lst st q hy k p hp
  · cases ee
end
end DL
namespace DL
open PySem L2 PySem.Spec
section
variable {K : PySem.W.Frag} {M : Mk} {G H G1 H1 : Hp} {m m1 m2 mn : List Ty} {σ σ1 : St} {e : En} {A A1 : List Addr} {D : Ends} {e' : En} {o : Out} {t u : TS} {f g : Sf} {ef : Ef} {bf : Bf} {lf : Lf}
def eItmG (j : Nat) (f : Ef) : Ef := fun e => (f e).bind fun p => (itemD (p.2.getD j .none) p.1).map fun x => (x, p.2)
end
section
variable {ι : Type} {Xf : ι → Cx} {P : Program} {w : World} {K : PySem.W.Frag} {mg : Str → Option Value} {base : Heap} {n : Nat} [F : Fam Xf P w K mg base n]
variable {M : Mk} {m m1 m2 mn ml : List Ty} {pos p p2 spos xp : Pos} {a b c v tg iter : Expr} {st : Stmt} {rest body orelse : List Stmt} {f g : Sf} {ef eg : Ef} {bf : Bf} {lf : Lf} {gf : Gf} {sl : List Nat} {ty t1 t2 : Ty}
structure PRd {ι : Type} (Xf : ι → Cx) (K : PySem.W.Frag) (m : List Ty) (e : Expr) (f : Lf) (m' : List Ty) : Prop where
  ex : ∃ te : St → Hp → (Int → Int → Hp → Prop) → Prop, (∀ i, PRg (Xf i) e te) ∧ ∀ {G H : Hp} {σ : St} {e : En} {A : List Addr} {ds : List PyData} {e' : En} {Q : Int → Int → Hp → Prop}, Stt K m G H σ e A → f e = some (ds, e') →
    (∀ (G' H' : Hp) (A' : List Addr) (a b : Int), Step A G H A' G' H' → Stt K m' G' H' σ e' A' → RgOk a b → ds = rngD a (b - a).toNat → Q a b H') → te σ H Q
theorem sz24 {n : Nat} (h : n ≤ sizeLine) : n ≤ 2 ^ 24 := by rw [sizeLine_eq] at h; omega
include F in
theorem pr_1 (hm : mg "range" = none) (ha : PD Xf K m a .s ef m1) (hg : ∀ i, Gl (Xf i) "range" := by intro _; rfl) (na : ∀ i, starEach [a] (Xf i).env = (false, eval a (Xf i).env) :: starEach [] (Xf i).env := by intro _; rfl) : PRd Xf K m (.Call (.Name "range" p) [a] [] pos) (iR1 ef) m1 := by
  obtain ⟨ta, pa, da⟩ := ha.ex
  refine ⟨_, fun i => prg_1 (hg i) (by rw [F.mg_ i]; exact hm) (pa i) (na i), fun {G H σ e A ds e' Q} st hf k => ?_⟩
  obtain ⟨⟨d1, e1⟩, hf1, hf⟩ := oBs hf
  obtain ⟨ds1, hf2, hf⟩ := oBs hf
  cases hf
  refine da st hf1 fun G1 H1 v1 A1 B1 s1 st1 o1 nd1 => ?_
  cases o1 with
  | s q1 =>
    cases d1 with
    | int j =>
      obtain ⟨hz, rfl⟩ := ite_some hf2
      replace hz := And.intro hz.2.1 (And.intro hz.2.2 hz.1)
      obtain rfl := dq_int q1
      exact ⟨j, rfl, k G1 H1 B1 0 j s1 st1 ⟨by omega, by omega, hz.1, hz.2.1, by rw [Int.sub_zero]; exact sz24 hz.2.2⟩ (by rw [Int.sub_zero])⟩
    | _ => cases hf2
theorem dqA_rg {G : Hp} {a b : Int} : DqA K G (rgV a b) (rngD a (b - a).toNat) := by
  unfold rgV rngD
  refine ⟨by simp, fun i v d h1 h2 => ?_⟩
  by_cases h : i < (b - a).toNat
  · rw [List.getElem?_map, List.getElem?_range h] at h1 h2
    cases h1; cases h2; exact .int _
  · rw [List.getElem?_map, List.getElem?_eq_none (by simp; omega)] at h1; cases h1
def eLsR (f : Lf) : Ef := fun e => (f e).map fun p => (.list p.1, p.2)
def eTpR (f : Lf) : Ef := fun e => (f e).map fun p => (.tuple p.1, p.2)
include F in
theorem pd_lsR [FG : FamG Xf] (hm : mg "list" = none) (he : PRd Xf K m a lf m1) (hg : ∀ i, Gl (Xf i) "list" := by intro _; rfl) (na : ∀ i, starEach [a] (Xf i).env = (false, eval a (Xf i).env) :: starEach [] (Xf i).env := by intro _; rfl) : PD Xf K m (.Call (.Name "list" p) [a] [] pos) (.l .s) (eLsR lf) m1 := by
  obtain ⟨te, pe, de⟩ := he.ex
  refine ⟨_, fun i => pe_listRg (FG.calm i) (hg i) (by rw [F.mg_ i]; exact hm) (pe i) (na i), fun {G H σ e A d e' Q} st hf k => ?_⟩
  obtain ⟨⟨ds, e1⟩, hf1, hf⟩ := Option.map_eq_some_iff.mp hf
  cases hf
  refine de st hf1 fun G1 H1 A1 x y s1 st1 ok hd => ⟨ok, ?_⟩
  subst hd
  exact ans_lst st1 (dqA_rg (K := K)) (by rw [rgV_length]; have := ok.2.2.2.2; rw [sizeLine_eq]; omega) fun G2 H2 v Av A2 s2 => k G2 H2 v Av A2 (s1.seq0 s2)
def sNever : Sf := fun _ => none
theorem ds_never : PSd Xf K M m st sNever mn := ⟨tNever, fun _ => ps_never, fun st hf k => by cases hf⟩
def sAug (j : Nat) (gg : PyData → PyData → Option PyData) (f : Ef) : Sf := fun e => (f e).bind fun p => (gg (p.2.getD j .none) p.1).map fun d => (.nx, p.2.set j d)
end
section
variable {X : Cx} {pins : List (Addr × Obj)} {σ : St} {H : Hp} {s : Shared}
end
class FamD {ι : Type} (Xf : ι → Cx) : Prop where
  gd : ∀ i, (Xf i).A.guards = some []
instance {ι : Type} {Xf : ι → Cx} [F : FamG Xf] : FamD Xf := ⟨fun i => F.gd i⟩
section
variable {ι : Type} {Xf : ι → Cx} {P : Program} {w : World} {K : PySem.W.Frag} {mg : Str → Option Value} {base : Heap} {n : Nat} [F : Fam Xf P w K mg base n] [FD : FamD Xf]
end
end DL
namespace DL
open PySem L2 PySem.Spec
section
variable {K : PySem.W.Frag} {G H : Hp}
end
def eCallL2 (Fn : DFn) (k1 j1 k2 j2 : Nat) (r : Lf) : Ef := fun e => (r e).bind fun p => (Fn ((p.1.set k1 (p.2.getD j1 .none)).set k2 (p.2.getD j2 .none))).bind fun q => some (q.1, (p.2.set j2 (q.2.getD k2 .none)).set j1 (q.2.getD k1 .none))
section
variable {ι : Type} {Xf : ι → Cx} {P : Program} {w : World} {K : PySem.W.Frag} {mg : Str → Option Value} {base : Heap} {n : Nat} [F : Fam Xf P w K mg base n] [FG : FamG Xf]
variable {m m1 m2 m3 : List Ty} {pos p p2 : Pos} {a b c : Expr} {es : List Expr} {f g h : Ef} {fr : Lf} {ty : Ty} {tys : List Ty} {L : List (Option Nat)}
end
end DL
namespace DL
open PySem L2 PySem.Spec
section
open PyProof.Rows PySem.SeqAt PySem.MeetsSeq PySem.MeetsSeq2 PySem.MeetsSeq3 HT
variable {prog : Program} {w : World} {A : Around} {E : Value → Shared → Prop} {s : Shared}
end
section
open PyProof.Rows
end
def gBack : PyData → Option PyData
  | .tuple xs => some (.tuple xs.reverse)
  | .list xs => some (.list xs.reverse)
  | _ => none
section
variable {ι : Type} {Xf : ι → Cx} {P : Program} {w : World} {K : PySem.W.Frag} {mg : Str → Option Value} {base : Heap} {n : Nat} [F : Fam Xf P w K mg base n]
variable {m m1 : List Ty} {a : Expr} {ef : Ef} {k : Nat} {p1 p2 p3 pos : Pos}
end
end DL
namespace DL
open PySem L2 PySem.Spec
def fgE (js : List Nat) (e : En) : En := js.foldl (fun e j => e.set j .none) e
def fgOk (js : List Nat) (m : List Ty) : Bool := js.all fun j => match m[j]? with | some .u => true | _ => false
def outE (js jr : List Nat) (o : Out) (e : En) : En := match o with | .rt _ => fgE jr e | _ => fgE js e
def iFg (js : List Nat) (lf : Lf) : Lf := fun e => (lf e).bind fun p => some (p.1, fgE js p.2)
def sPre (js : List Nat) (f : Sf) : Sf := fun e => f (fgE js e)
def sPost (js jr : List Nat) (f : Sf) : Sf := fun e => (f e).bind fun p => some (p.1, outE js jr p.1 p.2)
section
variable {K : PySem.W.Frag} {G H : Hp} {m m1 ml mn : List Ty} {σ : St} {e : En} {A : List Addr} {M : Mk} {f : Sf} {t : TS}
theorem ownA_fg {j : Nat} : ∀ {m : List Ty} {e : En} {σ : St} {A : List Addr} {j : Nat}, m[j]? = some .u → OwnA K G H m e σ A → OwnA K G H m (e.set j .none) σ A := by
  intro m
  induction m with
  | nil => intro e σ A j h; simp at h
  | cons t m ih =>
    intro e σ A j h o
    cases o with
    | @cons _ _ d ds v vs A B o1 o2 =>
      cases j with
      | zero =>
        simp only [List.getElem?_cons_zero, Option.some.injEq] at h
        subst h
        cases o1
        exact OwnA.cons (A := []) (.u _ _) o2
      | succ j =>
        simp only [List.getElem?_cons_succ] at h
        exact OwnA.cons o1 (ih h o2)
theorem stt_fg {js : List Nat} (ok : fgOk js m = true) (st : Stt K m G H σ e A) : Stt K m G H σ (fgE js e) A := by
  induction js generalizing e with
  | nil => exact st
  | cons j js ih =>
    simp only [fgOk, List.all_cons, Bool.and_eq_true] at ok
    refine ih ok.2 ⟨ownA_fg (j := 0) ?_ st.own, st.nd, st.sub⟩
    have := ok.1
    split at this
    · assumption
    · cases this
theorem WalkD.mono {wk : Bool} {G G' : Hp} {J : It} {ds : List PyData} (h : WalkD K wk G J ds) (s : Same G G') : WalkD K wk G' J ds :=
  ⟨fun i H hi s' => h.goes i H hi (s.trans s'), fun H s' => h.stops H (s.trans s'), fun hi s' st y => h.yields hi (s.trans s') st y⟩
theorem DS.post {js jr : List Nat} (h : DS K M m t f mn) (o1 : fgOk js mn = true) (o2 : fgOk js M.b = true) (o3 : fgOk js M.c = true) (o4 : fgOk jr M.r = true) : DS K M m t (sPost js jr f) mn := by
  intro G H σ e A o e' D st hf k
  obtain ⟨⟨o0, e0⟩, hf1, hf⟩ := oBs hf
  simp only [Option.some.injEq, Prod.mk.injEq] at hf
  obtain ⟨rfl, rfl⟩ := hf
  refine h st hf1 ?_
  cases o0 with
  | nx => exact fun G' H' σ' A' s' st' p' => k G' H' σ' A' s' (stt_fg o1 st') p'
  | bk => exact fun G' H' σ' A' s' st' p' => k G' H' σ' A' s' (stt_fg o2 st') p'
  | ct => exact fun G' H' σ' A' s' st' p' => k G' H' σ' A' s' (stt_fg o3 st') p'
  | rt d => exact fun G' H' σ' v Av A' s' st' ov nd p' => k G' H' σ' v Av A' s' (stt_fg o4 st') ov nd p'
end
section
variable {ι : Type} {Xf : ι → Cx} {K : PySem.W.Frag} {M : Mk} {m m1 ml mn : List Ty} {tg iter : Expr} {lf : Lf} {st : Stmt} {body : List Stmt} {f : Sf}
theorem pi_fg {wk : Bool} (js : List Nat) (h : PIt Xf K wk m tg iter lf m1) (l : LeM m1 ml) (ok : fgOk js ml = true := by first | decide | rfl | simp) : PIt Xf K wk m tg iter (iFg js lf) ml := by
  obtain ⟨wi, p, d⟩ := h.ex
  refine ⟨wi, p, fun {G H σ e A ds e' R} st hf k => ?_⟩
  obtain ⟨⟨ds1, e1⟩, hf1, hf⟩ := oBs hf
  simp only [Option.some.injEq, Prod.mk.injEq] at hf
  obtain ⟨rfl, rfl⟩ := hf
  refine d st hf1 fun G1 H1 A1 J s1 st1 wk hz => ?_
  obtain ⟨G2, A2, s2, st2⟩ := stt_le l st1
  exact k G2 H1 A2 J (s1.seq0 s2) (stt_fg ok st2) (wk.mono s2.sg) hz
theorem ss_post (js jr : List Nat) (h : PSsd Xf K M m body f mn) (o1 : fgOk js mn = true := by first | decide | rfl | simp) (o2 : fgOk js M.b = true := by first | decide | rfl | simp) (o3 : fgOk js M.c = true := by first | decide | rfl | simp) (o4 : fgOk jr M.r = true := by first | decide | rfl | simp) : PSsd Xf K M m body (sPost js jr f) mn := by
  obtain ⟨t, p, d⟩ := h.ex
  exact ⟨t, p, d.post o1 o2 o3 o4⟩
theorem ds_pre (js : List Nat) (h : PSd Xf K M m1 st f mn) (l : LeM m m1) (ok : fgOk js m1 = true := by first | decide | rfl | simp) : PSd Xf K M m st (sPre js f) mn := by
  obtain ⟨t, p, d⟩ := h.ex
  refine ⟨t, p, fun {G H σ e A o e' D} st hf k => ?_⟩
  obtain ⟨G2, A2, s2, st2⟩ := stt_le l st
  exact d (stt_fg ok st2) hf (k.back s2 Pin.refl)
end
end DL
namespace DL
open PySem L2 PySem.Spec
def gPopAt (l i : PyData) : Option (PyData × PyData) := match l, i with
  | .list ds, .int k => if -(2 ^ 63) ≤ k ∧ k < 2 ^ 63 then (ixN ds.length k).bind fun j => (ds[j]?).bind fun x => some (x, .list (ds.eraseIdx j)) else none
  | _, _ => none
def gExt (l x : PyData) : Option PyData := match l, x with
  | .list ds, .list es => if ds.length + es.length ≤ sizeLine then some (.list (ds ++ es)) else none
  | _, _ => none
def eNotT (b : Bf) : Ef := fun e => (b e).bind fun p => some (.bool (!p.1), p.2)
def ePopG (j : Nat) (f : Ef) : Ef := fun e => (f e).bind fun p => (gPopAt (p.2.getD j .none) p.1).bind fun q => some (q.1, p.2.set j q.2)
def eExt (j : Nat) (f : Ef) : Ef := fun e => (f e).bind fun p => (gExt (p.2.getD j .none) p.1).bind fun l => some (.none, p.2.set j l)
section
variable {K : PySem.W.Frag} {G H G1 H1 : Hp} {m m1 m2 mn : List Ty} {σ : St} {e : En} {A A1 : List Addr} {t : Ty} {ts : List Ty}
theorem slot_list {j : Nat} {Av : List Addr} {e1 : En} (s1 : Step A G H (Av ++ A1) G1 H1) (nd : (Av ++ A1).Nodup) (st : Stt K m G1 H1 σ e1 A1) (hm : m[j]? = some (.l .s)) :
    ∃ a vs ds, σ[j]? = some (some (.ref a)) ∧ e1.getD j .none = .list ds ∧ G1 a = none ∧ H1 a = some (.lst vs) ∧ vs.length ≤ sizeLine ∧ DqA K G1 vs ds ∧
      ∀ (vs' : List V) (ds' : List PyData), DqA K G1 vs' ds' → vs'.length ≤ sizeLine → ∃ A2, Step A G H A2 G1 (upd H1 a (.lst vs')) ∧ Stt K m G1 (upd H1 a (.lst vs')) σ (e1.set j (.list ds')) A2 := by
  obtain ⟨dj, vj, Aj, A0, h1, h2, h3, h4, hp⟩ := ownA_take st.own hm
  have n1 := List.nodup_append.mp (hp.nodup_iff.mp st.nd)
  cases h3 with
  | @l _ a vs ds Ai ga ha hz oi =>
    obtain ⟨rfl, q⟩ := of_ownA oi
    have haA : a ∈ A1 := hp.mem_iff.mpr (List.mem_append_left _ (List.mem_singleton.mpr rfl))
    have ne : ∀ b ∈ A0, b ≠ a := fun b hb z => n1.2.2 a (List.mem_singleton.mpr rfl) b hb z.symm
    refine ⟨a, vs, ds, h2, by rw [List.getD_eq_getElem?_getD, h1]; rfl, ga, ha, hz, q, fun vs' ds' q' hz' => ?_⟩
    have fr : ∀ b, b ≠ a → upd H1 a (.lst vs') b = H1 b := fun b hb => upd_ne hb
    have oN : Own K G1 (upd H1 a (.lst vs')) (.l .s) (.list ds') (some (.ref a)) (a :: []) := .l ga upd_same hz' (ownA_of q')
    have hu : (m.set j .u)[j]? = some .u := by rw [List.getElem?_set_self (List.getElem?_eq_some_iff.mp hm).1]
    obtain ⟨A2, o2, p2⟩ := ownA_put (ownA_fr (H' := upd H1 a (.lst vs')) h4 (Same.refl G1) (fun b hb => (ownA_at h4 b hb).1) fun b hb => fr b (ne b hb)) hu oN
    rw [List.set_set, set_id (l := m) hm, set_id (l := σ) h2] at o2
    have inA : ∀ b ∈ A2, b ∈ A1 := fun b hb => hp.mem_iff.mpr (p2.mem_iff.mp hb)
    refine ⟨A2, ⟨s1.sg, fun b o hb hbA => ?_, fun b hb => s1.own b (List.mem_append_right _ (inA b hb)), s1.gnew⟩, ⟨o2, p2.nodup_iff.mpr (hp.nodup_iff.mp st.nd), fun b o hb => ?_⟩⟩
    · have hne : b ≠ a := fun z => by
        rcases s1.own a (List.mem_append_right _ haA) with k | k
        · exact hbA (z ▸ k)
        · rw [← z, hb] at k; cases k
      rw [fr b hne]; exact s1.fr b o hb hbA
    · rw [fr b (ne_of_none hb ga)]; exact st.sub b o hb
theorem DqA.erase {vs : List V} {ds : List PyData} (q : DqA K G vs ds) (j : Nat) : DqA K G (vs.eraseIdx j) (ds.eraseIdx j) := by
  refine ⟨by rw [List.length_eraseIdx, List.length_eraseIdx, q.1], fun i v d h1 h2 => ?_⟩
  rw [List.getElem?_eraseIdx] at h1 h2
  split at h1
  · rename_i hi; rw [if_pos hi] at h2; exact q.2 _ _ _ h1 h2
  · rename_i hi; rw [if_neg hi] at h2; exact q.2 _ _ _ h1 h2
theorem DE.popG {ti : TE} {f : Ef} {j : Nat} (hm : m[j]? = some (.l .s)) (he : DE K m ti .s f m1) (hm1 : m1[j]? = some (.l .s)) : DE K m (tBM K "list" rPopAt (tVar j) (tCons ti tNil)) .s (ePopG j f) m1 := by
  intro G H σ e A d e' Q st hf k
  obtain ⟨⟨dx, e1⟩, hf1, hf⟩ := oBs hf
  obtain ⟨⟨r, l⟩, hf2, hf⟩ := oBs hf
  cases hf
  obtain ⟨a0, vs0, ds0, h0, _, _, ha0, _⟩ := slot_list (Av := []) (Step.refl (A := A)) st.nd st hm
  refine ⟨.ref a0, h0, .inl ⟨rfl, _, .inl (.inl ha0)⟩, ?_⟩
  refine he st hf1 fun G1 H1 y Av B1 s1 st1 ov ndv => ?_
  obtain ⟨a, vs, ds, h2, h1, ga, ha, hz, q, wr⟩ := slot_list s1 ndv st1 hm1
  rw [h0] at h2
  cases h2
  cases dx with
  | int i =>
    cases ov with
    | s qy =>
      cases qy
      rw [show List.getD (PyData.int i, e1).2 j .none = .list ds from h1] at hf2
      obtain ⟨hr, hf2⟩ := ite_some2 hf2
      obtain ⟨n, hn, hf2⟩ := oBs hf2
      obtain ⟨x, hx, hf2⟩ := oBs hf2
      cases hf2
      obtain ⟨w, hw, qw⟩ := q.get hx
      have hl := len_erase vs n
      obtain ⟨A2, s3, st3⟩ := wr (vs.eraseIdx n) _ (q.erase n) (by omega)
      exact ⟨a0, vs, i, n, w, rfl, rfl, ha, hr.1, hr.2, by rw [q.1]; exact (ixN_seq hn).1, hw, k G1 _ w [] A2 s3 st3 (.s qw) st3.nd⟩
  | _ => 
    exfalso
    unfold gPopAt at hf2
    split at hf2
    · rename_i h; cases h
    · cases hf2
theorem DE.ext {ti : TE} {f : Ef} {j : Nat} (hm : m[j]? = some (.l .s)) (he : DE K m ti (.l .s) f m1) (hm1 : m1[j]? = some (.l .s)) : DE K m (tBM K "list" rExtend (tVar j) (tCons ti tNil)) .s (eExt j f) m1 := by
  intro G H σ e A d e' Q st hf k
  obtain ⟨⟨dx, e1⟩, hf1, hf⟩ := oBs hf
  obtain ⟨l, hf2, hf⟩ := oBs hf
  cases hf
  obtain ⟨a0, vs0, ds0, h0, _, _, ha0, _⟩ := slot_list (Av := []) (Step.refl (A := A)) st.nd st hm
  refine ⟨.ref a0, h0, .inl ⟨rfl, _, .inl (.inl ha0)⟩, ?_⟩
  refine he st hf1 fun G1 H1 y Av B1 s1 st1 ov ndv => ?_
  obtain ⟨a, vs, ds, h2, h1, ga, ha, hz, q, wr⟩ := slot_list s1 ndv st1 hm1
  rw [h0] at h2
  cases h2
  cases ov with
  | @l _ b ws es Bi gb hb hzb ob =>
    obtain ⟨rfl, qw⟩ := of_ownA ob
    rw [show List.getD (PyData.list es, e1).2 j .none = .list ds from h1] at hf2
    obtain ⟨hr, hf2⟩ := ite_some hf2
    cases hf2
    have l1 := q.1
    have l2 := qw.1
    obtain ⟨A2, s3, st3⟩ := wr (vs ++ ws) _ (q.append qw) (by rw [List.length_append]; omega)
    exact ⟨a0, b, vs, ws, rfl, rfl, ha, hb, by omega, k G1 _ .non [] A2 s3 st3 (.s .non) st3.nd⟩
end
section
variable {ι : Type} {Xf : ι → Cx} {P : Program} {w : World} {K : PySem.W.Frag} {mg : Str → Option Value} {base : Heap} {n : Nat} [F : Fam Xf P w K mg base n]
variable {m m1 : List Ty} {pos p p2 apos cpos xp : Pos} {a b v : Expr} {f : Ef} {fb : Bf}
include F in
theorem pd_notV (ha : PD Xf K m a .s f m1) : PD Xf K m (.UnaryOp .Not a pos) .s (eNotT (bOf f)) m1 := by
  obtain ⟨ta, pa, da⟩ := ha.ex
  refine ⟨fun σ H Q => ta σ H fun x H1 => ∃ k, TruV K x H1 k ∧ Q (.bl (!k)) H1, fun i => by have := pe_notT (pa i) (pos := pos); rw [F.kk i] at this; exact this, fun {G H σ e A d e' Q} st hf k => ?_⟩
  obtain ⟨⟨b1, e1⟩, hf1, hf⟩ := oBs hf
  cases hf
  obtain ⟨⟨dx, e2⟩, hf2, hf3⟩ := oBs (show (f e).bind (fun p => (gTruth p.1).bind fun b => some (b, p.2)) = some (b1, e1) from hf1)
  obtain ⟨c, hc, hf3⟩ := oBs hf3
  cases hf3
  refine da st hf2 fun G1 H1 x A1 B1 s1 st1 o1 nd1 => ?_
  cases o1 with
  | s q1 => exact ⟨_, truV_of q1 st1.sub hc, k G1 H1 _ [] B1 s1 st1 (.s (.bl _)) st1.nd⟩
include F in
theorem pd_popG (j : Nat) {x : Str} (hv0 : PD Xf K m v .s f m1) (hm : m[j]? = some (.l .s) := by rfl) (hm1 : m1[j]? = some (.l .s) := by rfl) (hN : ∀ i, (Xf i).N[j]? = some x := by intro _; rfl)
    (hv : ∀ i, Vis (Xf i).env.scope x := by first | (intro _; exact Or.inl rfl) | (intro _; exact Or.inr (Or.inl rfl)) | (intro _; exact Or.inr (Or.inr rfl))) (hd : (x == ("__debug__" : Str)) = false := by decide) (hcd : (x == ("__classdict__" : Str)) = false := by decide)
    (hbase : ∀ i, attributeBase (.Name x xp) "pop" (Xf i).env (eval (.Name x xp) (Xf i).env) = eval (.Name x xp) (Xf i).env := by intro _; rfl)
    (hfew : ∀ i, ((backTo cpos (starEach [v] (Xf i).env)).all (fun x => !x.1) && (backToKw cpos (keywordEach [] (Xf i).env)).all (fun x => x.1.isSome)
      && decide ([v].length + ([] : List Keyword).length + (if ([] : List Keyword).isEmpty then 0 else 1) < 30)) = true := by intro _; rfl)
    (hline : (apos.endLine == cpos.line) = true := by rfl) (hs : ∀ i, starEach [v] (Xf i).env = (false, eval v (Xf i).env) :: starEach [] (Xf i).env := by intro _; rfl) (hplain : ∀ i, (backTo cpos (starEach [] (Xf i).env)).any (·.1) = false := by intro _; rfl) :
    PD Xf K m (.Call (.Attribute (.Name x xp) "pop" apos) [v] [] cpos) .s (ePopG j f) m1 := by
  obtain ⟨tv, pv, dv⟩ := hv0.ex
  exact ⟨_, fun i => by have := pe_bm PySem.F.plainAttrs_list PySem.F.slot_list_pop PySem.F.type_list_pop (mt_popAt (X := Xf i)) (pe_var (hN i) (hv i) hd hcd) (pa_cons (pv i) pa_nil (hs i)) (hbase i) (hfew i) hline (hs i) (hplain i); rw [F.kk i] at this; exact this, DE.popG hm dv hm1⟩
variable {M : Mk} {spos : Pos}
include F in
theorem ds_aug (j : Nat) {op : Operator} {x : Str} {pos' : Pos} {gg : PyData → PyData → Option PyData} {r : R2} (ho : ∀ i, OpR (Xf i) (inplaceOp op) r) (hr : D2 K r .s gg) (he : PD Xf K m v .s f m1) (hm : m[j]? = some .s := by rfl) (hm1 : m1[j]? = some .s := by rfl) (hp : j ∉ M.po := by first | decide | rfl | simp)
    (hi : ∀ i, (Xf i).N[j]? = some x := by intro _; rfl) (hx : ∀ i, Loc (Xf i).env.scope x := by first | (intro _; exact Or.inl rfl) | (intro _; exact Or.inr rfl)) (hf : ∀ i, (Xf i).fn x = true ∨ (Xf i).env.scope.names.lookup x = some .local := by first | (intro _; exact Or.inl rfl) | (intro _; exact Or.inr rfl)) :
    PSd Xf K M m (.AugAssign (.Name x pos') op v spos) (sAug j gg f) (m1.set j .s) := by
  obtain ⟨te, pe, de⟩ := he.ex
  refine ⟨_, fun i => ps_aug (F.nd i) (hi i) (hx i) (pe i) (ho i) (hf i), fun {G H σ e A o e' D} st hf k => ?_⟩
  obtain ⟨⟨dy, e1⟩, hf1, hf⟩ := oBs hf
  obtain ⟨dz, hf2, hf⟩ := Option.map_eq_some_iff.mp hf
  cases hf
  obtain ⟨d0, v0, h1, h2, h3⟩ := ownA_getS st.own hm
  refine ⟨v0, h2, ?_⟩
  refine de st hf1 fun G1 H1 y A1 B1 s1 st1 o1 nd1 => ?_
  obtain ⟨d1, v1, k1, k2, k3⟩ := ownA_getS st1.own hm1
  rw [h2] at k2
  cases k2
  cases o1 with
  | s q1 =>
    rw [List.getD_eq_getElem?_getD, k1] at hf2
    refine hr st1 k3 q1 hf2 fun G2 H2 z A2 B2 s2 st2 o2 nd2 => ?_
    obtain ⟨A3, st3, hA⟩ := stt_set st2 (List.getElem?_eq_some_iff.mp hm1).1 o2 nd2
    exact k G2 H2 _ A3 ((s1.seq0 s2).less hA) st3 (Pin.set hp)
def gAddI : PyData → PyData → Option PyData
  | .int i, .int j => some (.int (i + j))
  | _, _ => none
theorem d2_addI : D2 K (rI0 fun i j => .int (i + j)) .s gAddI := fun {m G H σ e A x y dx dy d Q} st hx hy ee k => by
  unfold gAddI at ee
  split at ee
  · cases ee
    obtain rfl := dq_int hx
    obtain rfl := dq_int hy
    exact ⟨_, _, rfl, rfl, ans_s st (.int _) k⟩
  · cases ee
include F in
theorem ds_augAdd (j : Nat) {x : Str} {pos' : Pos} (he : PD Xf K m v .s f m1) (hm : m[j]? = some .s := by rfl) (hm1 : m1[j]? = some .s := by rfl) (hp : j ∉ M.po := by first | decide | rfl | simp)
    (hi : ∀ i, (Xf i).N[j]? = some x := by intro _; rfl) (hx : ∀ i, Loc (Xf i).env.scope x := by first | (intro _; exact Or.inl rfl) | (intro _; exact Or.inr rfl)) (hf : ∀ i, (Xf i).fn x = true ∨ (Xf i).env.scope.names.lookup x = some .local := by first | (intro _; exact Or.inl rfl) | (intro _; exact Or.inr rfl)) :
    PSd Xf K M m (.AugAssign (.Name x pos') .Add v spos) (sAug j gAddI f) (m1.set j .s) := ds_aug j (fun _ => iop_add) d2_addI he hm hm1 hp hi hx hf
variable {k : Nat} {x : Str} {rty : Ty} {Fn : DFn} [FG : FamG Xf]
def gStr : PyData → Option PyData
  | .int i => if i.natAbs.log2 < 1920 ∧ (toString i : Str).length ≤ sizeLine then some (.str (toString i)) else none
  | .str z => some (.str z)
  | .bool b => some (.str (if b = true then "True" else "False"))
  | _ => none
end
end DL
namespace DL
open PySem L2 PySem.Spec PyProof.Rows
section
variable {P : Program} {w : World} {A : Around} {E : Value → Shared → Prop} {s : Shared}
end
theorem bt_set : bootBuiltins "set" = some (.type "set") := by decide +kernel
section
variable {X : Cx}
end
def insU (x : Int) : List Int → List Int
  | [] => [x]
  | y :: ys => if x < y then x :: y :: ys else if x = y then y :: ys else y :: insU x ys
def sortSet : List Int → List Int
  | [] => []
  | x :: xs => insU x (sortSet xs)
theorem insU_mem {x j : Int} : ∀ {l : List Int}, j ∈ insU x l ↔ j = x ∨ j ∈ l
  | [] => by simp [insU]
  | y :: ys => by
    unfold insU
    split
    · simp
    · split
      · rename_i h; subst h; simp
      · rw [List.mem_cons, insU_mem, List.mem_cons]
        constructor
        · rintro (h | h | h) <;> simp [h]
        · rintro (h | h | h) <;> simp [h]
theorem insU_lt {x : Int} : ∀ {l : List Int}, l.Pairwise (· < ·) → (insU x l).Pairwise (· < ·)
  | [], _ => by simp [insU]
  | y :: ys, h => by
    obtain ⟨h1, h2⟩ := List.pairwise_cons.mp h
    unfold insU
    split
    · rename_i hx
      exact List.pairwise_cons.mpr ⟨fun z hz => by
        rcases List.mem_cons.mp hz with e | hz
        · rw [e]; exact hx
        · exact Int.lt_trans hx (h1 z hz), h⟩
    · split
      · exact h
      · rename_i a b
        refine List.pairwise_cons.mpr ⟨fun z hz => ?_, insU_lt h2⟩
        rcases insU_mem.mp hz with e | hz
        · rw [e]; omega
        · exact h1 z hz
theorem sortSet_lt : ∀ l : List Int, (sortSet l).Pairwise (· < ·)
  | [] => List.Pairwise.nil
  | x :: xs => insU_lt (sortSet_lt xs)
theorem sortSet_mem {j : Int} : ∀ {l : List Int}, j ∈ sortSet l ↔ j ∈ l
  | [] => Iff.rfl
  | x :: xs => by rw [sortSet, insU_mem, sortSet_mem, List.mem_cons]
theorem rising_one : ∀ {l m : List Int}, l.Pairwise (· < ·) → m.Pairwise (· < ·) → (∀ j, j ∈ l ↔ j ∈ m) → l = m
  | [], [], _, _, _ => rfl
  | [], y :: m, _, _, h => absurd ((h y).mpr (List.mem_cons_self ..)) (by simp)
  | x :: l, [], _, _, h => absurd ((h x).mp (List.mem_cons_self ..)) (by simp)
  | x :: l, y :: m, hl, hm, h => by
    obtain ⟨a1, a2⟩ := List.pairwise_cons.mp hl
    obtain ⟨b1, b2⟩ := List.pairwise_cons.mp hm
    have e : x = y := by
      rcases List.mem_cons.mp ((h x).mp (List.mem_cons_self ..)) with e | hx
      · exact e
      · rcases List.mem_cons.mp ((h y).mpr (List.mem_cons_self ..)) with e | hy
        · exact e.symm
        · have := a1 y hy; have := b1 x hx; omega
    subst e
    refine congrArg (x :: ·) (rising_one a2 b2 fun j => ⟨fun hj => ?_, fun hj => ?_⟩)
    · rcases List.mem_cons.mp ((h j).mp (List.mem_cons_of_mem _ hj)) with e | q
      · have := a1 j hj; omega
      · exact q
    · rcases List.mem_cons.mp ((h j).mpr (List.mem_cons_of_mem _ hj)) with e | q
      · have := b1 j hj; omega
      · exact q
theorem lt_nodup {l : List Int} (h : l.Pairwise (· < ·)) : l.Nodup := h.imp fun {a b} q => by omega
section
variable {ι : Type} {Xf : ι → Cx} {P : Program} {w : World} {K : PySem.W.Frag} {mg : Str → Option Value} {base : Heap} {n : Nat} [F : Fam Xf P w K mg base n]
variable {m m1 : List Ty} {pos p pos2 p2 : Pos} {a : Expr} {f : Ef} {x y : Str}
include F
end
end DL
namespace DL
open PySem L2 PySem.Spec
def isK (i : Int) : PyData → Bool
  | .int j => decide (j = i)
  | _ => false
def lookD (kvs : List (PyData × PyData)) (i : Int) : Option PyData := (kvs.find? fun p => isK i p.1).map (·.2)
def putD (kvs : List (PyData × PyData)) (i : Int) (x : PyData) : List (PyData × PyData) :=
  if (kvs.any fun p => isK i p.1) = true then kvs.map (fun p => if isK i p.1 = true then (p.1, x) else p) else kvs ++ [(.int i, x)]
def gDGet (d k : PyData) : Option PyData := match d, k with
  | .dict kvs, .int i => lookD kvs i
  | _, _ => none
def gDGet2 (d k z : PyData) : Option PyData := match d, k with
  | .dict kvs, .int i => some ((lookD kvs i).getD z)
  | _, _ => none
def gDPut (d k x : PyData) : Option PyData := match d, k with
  | .dict kvs, .int i => if kvs.length < sizeLine then some (.dict (putD kvs i x)) else none
  | _, _ => none
def kvD (p : Int × PyData) : PyData × PyData := (.int p.1, p.2)
def kvV (p : Int × V) : Key × V := (Sum.inl p.1, p.2)
def valI (ds : List (Int × PyData)) (i : Int) : Option PyData := (ds.find? fun p => decide (p.1 = i)).map (·.2)
def putI {α : Type} (ds : List (Int × α)) (i : Int) (x : α) : List (Int × α) :=
  if (ds.any fun p => decide (p.1 = i)) = true then ds.map (fun p => if p.1 = i then (p.1, x) else p) else ds ++ [(i, x)]
theorem look_map (i : Int) : ∀ ds : List (Int × PyData), lookD (ds.map kvD) i = valI ds i
  | [] => rfl
  | p :: ds => by
    have ih := look_map i ds
    unfold lookD valI at ih ⊢
    rw [List.map_cons, List.find?_cons, List.find?_cons]
    show (match decide (p.1 = i) with | true => _ | false => _ : Option _).map _ = _
    by_cases h : p.1 = i
    · simp only [h, decide_true]; rfl
    · simp only [h, decide_false]; exact ih
theorem putD_map (i : Int) (x : PyData) (ds : List (Int × PyData)) : putD (ds.map kvD) i x = (putI ds i x).map kvD := by
  unfold putD putI
  have e : ((ds.map kvD).any fun p => isK i p.1) = ds.any fun p => decide (p.1 = i) := by
    rw [List.any_map]; rfl
  rw [e]
  split
  · rw [List.map_map, List.map_map]
    refine List.map_congr_left fun p _ => ?_
    show (if decide (p.1 = i) = true then (PyData.int p.1, x) else kvD p) = kvD (if p.1 = i then (p.1, x) else p)
    by_cases h : p.1 = i
    · rw [if_pos (decide_eq_true h), if_pos h]; rfl
    · rw [if_neg (by simpa using h), if_neg h]
  · rw [List.map_append]; rfl
theorem putK_map (i : Int) (v : V) (kvs : List (Int × V)) : putK (kvs.map kvV) (Sum.inl i) v = (putI kvs i v).map kvV := by
  unfold putK putI
  have e : ((kvs.map kvV).any fun kv => decide (kv.1 = (Sum.inl i : Key))) = kvs.any fun p => decide (p.1 = i) := by
    rw [List.any_map]
    congr 1; funext p
    show decide ((Sum.inl p.1 : Key) = Sum.inl i) = decide (p.1 = i)
    exact decide_eq_decide.mpr ⟨fun h => Sum.inl.inj h, fun h => by rw [h]⟩
  rw [e]
  split
  · rw [List.map_map, List.map_map]
    refine List.map_congr_left fun p _ => ?_
    show (if (Sum.inl p.1 : Key) = Sum.inl i then ((Sum.inl p.1 : Key), v) else kvV p) = kvV (if p.1 = i then (p.1, v) else p)
    by_cases h : p.1 = i
    · rw [if_pos (by rw [h]), if_pos h]; rfl
    · rw [if_neg fun z => h (Sum.inl.inj z), if_neg h]
  · rw [List.map_append]; rfl
theorem putI_keys {α β : Type} {ds : List (Int × α)} {es : List (Int × β)} (h : ds.map (·.1) = es.map (·.1)) (i : Int) (x : α) (y : β) : (putI ds i x).map (·.1) = (putI es i y).map (·.1) := by
  have e : ∀ {γ : Type} (l : List (Int × γ)), (l.any fun p => decide (p.1 = i)) = (l.map (·.1)).any fun k => decide (k = i) := fun l => by rw [List.any_map]; rfl
  have e2 : ∀ {γ : Type} (l : List (Int × γ)) (z : γ), (l.map (fun p => if p.1 = i then (p.1, z) else p)).map (·.1) = l.map (·.1) := fun l z => by
    rw [List.map_map]
    refine List.map_congr_left fun p _ => ?_
    show (if p.1 = i then (p.1, z) else p).1 = p.1
    split <;> rfl
  unfold putI
  rw [e, e, h]
  split
  · rw [e2, e2, h]
  · rw [List.map_append, List.map_append, h]; rfl
theorem putI_len {α : Type} (ds : List (Int × α)) (i : Int) (x : α) : (putI ds i x).length ≤ ds.length + 1 := by
  unfold putI
  split
  · rw [List.length_map]; omega
  · rw [List.length_append]; exact Nat.le_refl _
section
variable {K : PySem.W.Frag} {G H G1 H1 : Hp} {m m1 m2 mn : List Ty} {σ : St} {e : En} {A A1 : List Addr} {t : Ty} {ts : List Ty}
theorem val_rel (i : Int) : ∀ {kvs : List (Int × V)} {ds : List (Int × PyData)}, kvs.map (·.1) = ds.map (·.1) → DqA K G (kvs.map (·.2)) (ds.map (·.2)) →
    (valV (kvs.map kvV) (Sum.inl i) = none ∧ valI ds i = none) ∨ ∃ v d, valV (kvs.map kvV) (Sum.inl i) = some v ∧ valI ds i = some d ∧ Dq K G v d
  | [], [], _, _ => .inl ⟨rfl, rfl⟩
  | [], _ :: _, h, _ => by simp at h
  | _ :: _, [], h, _ => by simp at h
  | p :: kvs, q :: ds, h, r => by
    simp only [List.map_cons, List.cons.injEq] at h
    rw [List.map_cons, List.map_cons] at r
    by_cases e : q.1 = i
    · refine .inr ⟨p.2, q.2, valV_pos (p := kvV p) (by show (Sum.inl p.1 : Key) = _; rw [h.1, e]), ?_, r.head⟩
      unfold valI
      rw [List.find?_cons_of_pos (by simpa using e)]; rfl
    · have e1 : valV ((p :: kvs).map kvV) (Sum.inl i) = valV (kvs.map kvV) (Sum.inl i) := valV_neg (p := kvV p) fun z => e (by rw [← h.1]; exact Sum.inl.inj z)
      have e2 : valI (q :: ds) i = valI ds i := by
        unfold valI
        rw [List.find?_cons_of_neg (by simpa using e)]
      rw [e1, e2]
      exact val_rel i h.2 r.tail
theorem put_rel (i : Int) {v : V} {d : PyData} (hv : Dq K G v d) {kvs : List (Int × V)} {ds : List (Int × PyData)} (h : kvs.map (·.1) = ds.map (·.1)) (r : DqA K G (kvs.map (·.2)) (ds.map (·.2))) : DqA K G ((putI kvs i v).map (·.2)) ((putI ds i d).map (·.2)) := by
  have e : ∀ {γ : Type} (l : List (Int × γ)), (l.any fun p => decide (p.1 = i)) = (l.map (·.1)).any fun k => decide (k = i) := fun l => by rw [List.any_map]; rfl
  unfold putI
  rw [e, e, h]
  split
  · clear e
    rename_i z
    clear z
    induction kvs generalizing ds with
    | nil =>
      cases ds with
      | nil => exact DqA.nil
      | cons _ _ => simp at h
    | cons p kvs ih =>
      cases ds with
      | nil => simp at h
      | cons q ds =>
        simp only [List.map_cons, List.cons.injEq] at h
        rw [List.map_cons, List.map_cons] at r
        rw [List.map_cons, List.map_cons, List.map_cons, List.map_cons]
        refine DqA.cons ?_ (ih h.2 r.tail)
        rw [h.1]
        by_cases z : q.1 = i
        · rw [if_pos z, if_pos z]; exact hv
        · rw [if_neg z, if_neg z]; exact r.head
  · rw [List.map_append, List.map_append]
    exact r.append (DqA.cons hv DqA.nil)
theorem slot_dict {j : Nat} {Av : List Addr} {e1 : En} (s1 : Step A G H (Av ++ A1) G1 H1) (nd : (Av ++ A1).Nodup) (st : Stt K m G1 H1 σ e1 A1) (hm : m[j]? = some .d) :
    ∃ (a : Addr) (kvs : List (Int × V)) (ds : List (Int × PyData)), σ[j]? = some (some (.ref a)) ∧ e1.getD j .none = .dict (ds.map kvD) ∧ G1 a = none ∧ H1 a = some (.dK (kvs.map kvV)) ∧ kvs.map (·.1) = ds.map (·.1) ∧ DqA K G1 (kvs.map (·.2)) (ds.map (·.2)) ∧
      ∀ (kvs' : List (Int × V)) (ds' : List (Int × PyData)), kvs'.map (·.1) = ds'.map (·.1) → DqA K G1 (kvs'.map (·.2)) (ds'.map (·.2)) → kvs'.length ≤ sizeLine → ∃ A2, Step A G H A2 G1 (upd H1 a (.dK (kvs'.map kvV))) ∧ Stt K m G1 (upd H1 a (.dK (kvs'.map kvV))) σ (e1.set j (.dict (ds'.map kvD))) A2 := by
  obtain ⟨dj, vj, Aj, A0, h1, h2, h3, h4, hp⟩ := ownA_take st.own hm
  have n1 := List.nodup_append.mp (hp.nodup_iff.mp st.nd)
  cases h3 with
  | @d a kvs ds ga ha hk q hz =>
    have haA : a ∈ A1 := hp.mem_iff.mpr (List.mem_append_left _ (List.mem_singleton.mpr rfl))
    have ne : ∀ b ∈ A0, b ≠ a := fun b hb z => n1.2.2 a (List.mem_singleton.mpr rfl) b hb z.symm
    refine ⟨a, kvs, ds, h2, by rw [List.getD_eq_getElem?_getD, h1]; rfl, ga, ha, hk, q, fun kvs' ds' hk' q' hz' => ?_⟩
    have fr : ∀ b, b ≠ a → upd H1 a (.dK (kvs'.map kvV)) b = H1 b := fun b hb => upd_ne hb
    have oN : Own K G1 (upd H1 a (.dK (kvs'.map kvV))) .d (.dict (ds'.map kvD)) (some (.ref a)) [a] := .d ga upd_same hk' q' hz'
    have hu : (m.set j .u)[j]? = some .u := by rw [List.getElem?_set_self (List.getElem?_eq_some_iff.mp hm).1]
    obtain ⟨A2, o2, p2⟩ := ownA_put (ownA_fr (H' := upd H1 a (.dK (kvs'.map kvV))) h4 (Same.refl G1) (fun b hb => (ownA_at h4 b hb).1) fun b hb => fr b (ne b hb)) hu oN
    rw [List.set_set, set_id (l := m) hm, set_id (l := σ) h2] at o2
    have inA : ∀ b ∈ A2, b ∈ A1 := fun b hb => hp.mem_iff.mpr (p2.mem_iff.mp hb)
    refine ⟨A2, ⟨s1.sg, fun b o hb hbA => ?_, fun b hb => s1.own b (List.mem_append_right _ (inA b hb)), s1.gnew⟩, ⟨o2, p2.nodup_iff.mpr (hp.nodup_iff.mp st.nd), fun b o hb => ?_⟩⟩
    · have hne : b ≠ a := fun z => by
        rcases s1.own a (List.mem_append_right _ haA) with k | k
        · exact hbA (z ▸ k)
        · rw [← z, hb] at k; cases k
      rw [fr b hne]; exact s1.fr b o hb hbA
    · rw [fr b (ne_of_none hb ga)]; exact st.sub b o hb
end
def eDGet (j : Nat) (f : Ef) : Ef := fun e => (f e).bind fun p => (gDGet (p.2.getD j .none) p.1).bind fun d => some (d, p.2)
def eDOp (g : PyData → PyData → Option PyData) (j : Nat) (f : Ef) : Ef := fun e => (f e).bind fun p => (g (p.2.getD j .none) p.1).bind fun d => some (d, p.2)
def eDGet2 (j : Nat) (f h : Ef) : Ef := fun e => (f e).bind fun p => (h p.2).bind fun q => (gDGet2 (q.2.getD j .none) p.1 q.1).bind fun d => some (d, q.2)
def sDPutD (j : Nat) (fi fv : Ef) : Sf := fun e => (fv e).bind fun p => (fi p.2).bind fun q => (gDPut (q.2.getD j .none) q.1 p.1).bind fun d => some (.nx, q.2.set j d)
section
variable {ι : Type} {Xf : ι → Cx} {P : Program} {w : World} {K : PySem.W.Frag} {mg : Str → Option Value} {base : Heap} {n : Nat} [F : Fam Xf P w K mg base n]
variable {m m1 m2 m3 : List Ty} {pos p p2 apos cpos xp : Pos} {a b c : Expr} {f g h : Ef}
omit F in
theorem key_int {G : Hp} {x : V} {i : Int} (q : Dq K G x (.int i)) : x = kV (Sum.inl i) := dq_int q
omit F in
theorem DE.dget {ti : TE} {j : Nat} {t0 : Ty} (h0 : m[j]? = some t0) (hl0 : lstTy t0 = true) (hi : DE K m ti .s f m1) (hm : m1[j]? = some .d) : DE K m (tDGet (tVar j) ti) .s (eDGet j f) m1 := by
  intro G H σ e A d e' Q st hf k
  obtain ⟨⟨di, e1⟩, hf1, hf⟩ := oBs hf
  obtain ⟨x, hx, hf⟩ := oBs hf
  cases hf
  obtain ⟨d0, v0, B0, C0, g1, g2, g3, _, _⟩ := ownA_take st.own h0
  have hv0 : ∃ w, v0 = some w := by cases g3 with | u => cases hl0 | s => cases hl0 | q => cases hl0 | e => cases hl0 | k => cases hl0 | a => cases hl0 | d => exact ⟨_, rfl⟩ | t => exact ⟨_, rfl⟩ | o => exact ⟨_, rfl⟩ | f => cases hl0 | x => cases hl0 | l => exact ⟨_, rfl⟩ | r => exact ⟨_, rfl⟩
  obtain ⟨w, rfl⟩ := hv0
  refine ⟨w, g2, hi st hf1 fun G1 H1 y A1 B1 s1 st1 o1 nd1 => ?_⟩
  obtain ⟨a, kvs, ds, h2, h1, ga, ha, hk, q, wr⟩ := slot_dict s1 nd1 st1 hm
  rw [g2] at h2
  cases h2
  cases o1 with
  | s q1 =>
    rw [show List.getD (di, e1).2 j .none = .dict (ds.map kvD) from h1] at hx
    cases di with
    | int i =>
      rw [show gDGet (.dict (ds.map kvD)) (.int i) = lookD (ds.map kvD) i from rfl, look_map] at hx
      rcases val_rel i hk q with ⟨_, z⟩ | ⟨v, d, z1, z2, qv⟩
      · rw [z] at hx; cases hx
      · rw [z2] at hx
        cases hx
        exact ⟨a, v, rfl, .inl ⟨_, _, .inl ha, key_int q1, z1.symm⟩, k _ _ v _ _ s1 st1 (.s qv) nd1⟩
    | _ => cases hx
include F in
theorem pd_dGet (j : Nat) {t0 : Ty} {x : Str} (hi : PD Xf K m b .s f m1) (h0 : m[j]? = some t0 := by rfl) (hl0 : lstTy t0 = true := by rfl) (hm : m1[j]? = some .d := by rfl) (hN : ∀ i, (Xf i).N[j]? = some x := by intro _; rfl)
    (hv : ∀ i, Vis (Xf i).env.scope x := by first | (intro _; exact Or.inl rfl) | (intro _; exact Or.inr (Or.inl rfl)) | (intro _; exact Or.inr (Or.inr rfl))) (hd : (x == ("__debug__" : Str)) = false := by decide) (hcd : (x == ("__classdict__" : Str)) = false := by decide) (hs : NoSl b := by exact fun _ _ => rfl) :
    PD Xf K m (.Subscript (.Name x xp) b pos) .s (eDGet j f) m1 := by
  obtain ⟨tb, pb, db⟩ := hi.ex
  exact ⟨_, fun i => pe_dget (by have := (F.room i).un; omega) (pe_var (pos := xp) (hN i) (hv i) hd hcd) (pb i) hs, DE.dget h0 hl0 db hm⟩
variable {M : Mk} {spos pos' : Pos}
end
end DL
namespace DL
open PySem L2 PySem.Spec
def gItm (j : Nat) (gi : Gq) : Gf := fun d e => (gi e).bind fun i => match e.getD j .none, i with
  | .list ds, .int k => (ixN ds.length k).map fun z => e.set j (.list (ds.set z d))
  | _, _ => none
section
variable {K : PySem.W.Frag} {G H G1 H1 : Hp} {m m1 m2 mn : List Ty} {σ : St} {e : En} {A A1 : List Addr} {t : Ty} {ts : List Ty}
theorem DG.itm {ti : TE} {gi : Gq} {j : Nat} (hm : m[j]? = some (.l .s)) (hi : DQv K m ti gi) : DG K false m (L2.gSub (tVar j) ti rSetL) [] (gItm j gi) m := by
  intro G H σ e A x d e' Q st q0 hf k
  have q := q0.strong
  obtain ⟨di, h2, hf⟩ := oBs hf
  obtain ⟨a, vs, ds, hs, h1, ga, ha, hz, qv, _⟩ := slot_list (Av := []) (Step.refl (A := A)) st.nd st hm
  rw [h1] at hf
  cases di with
  | int i =>
    obtain ⟨z, hj, hf⟩ := Option.map_eq_some_iff.mp hf
    cases hf
    refine ⟨.ref a, hs, hi st h2 fun H3 y sH3 qy => ?_⟩
    cases qy
    obtain ⟨s2, st2⟩ := stt_grow st sH3
    obtain ⟨a2, vs2, ds2, hs2, h12, ga2, ha2, hz2, qv2, wr⟩ := slot_list (Av := []) s2 st2.nd st2 hm
    rw [hs] at hs2
    cases hs2
    rw [h1] at h12
    cases h12
    have dz : z < ds.length := (ixN_seq hj).2.1
    obtain ⟨A2, s3, st3⟩ := wr (vs2.set z x) (ds.set z d) ⟨by rw [List.length_set, List.length_set, qv2.1], fun i v d' e1 e2 => by
      rw [List.getElem?_set] at e1 e2
      by_cases hz3 : z = i
      · subst hz3
        rw [if_pos rfl] at e1 e2
        have l1 : z < vs2.length := by rw [qv2.1]; exact dz
        simp [l1] at e1
        simp [dz] at e2
        rw [← e1, ← e2]; exact q
      · rw [if_neg hz3] at e1 e2
        exact qv2.2 _ _ _ e1 e2⟩ (by rw [List.length_set]; exact hz2)
    exact ⟨a, vs2, i, z, rfl, rfl, ha2, by rw [qv2.1]; exact hj, k G _ σ A2 s3 st3 (fun _ _ => rfl) rfl⟩
  | _ => cases hf
end
section
variable {ι : Type} {Xf : ι → Cx} {P : Program} {w : World} {K : PySem.W.Frag} {mg : Str → Option Value} {base : Heap} {n : Nat} [F : Fam Xf P w K mg base n]
variable {m m1 m2 m3 : List Ty} {pos p p2 apos cpos xp : Pos} {a b c i : Expr} {f g h : Ef} {gi : Gq}
end
end DL
namespace DL
open PySem L2 PySem.Spec PyProof.Rows
section
variable {X : Cx} {pins : List (Addr × Obj)} {σ : L2.St} {H : Hp} {s : Shared} {Q : VK}
end
end DL
namespace DL
open PySem L2 PySem.Spec
section
variable {ι : Type} {Xf : ι → Cx} {P : Program} {w : World} {K : PySem.W.Frag} {mg : Str → Option Value} {base : Heap} {n : Nat} [F : Fam Xf P w K mg base n]
variable {m m1 m2 m3 : List Ty} {pos p p2 apos cpos xp : Pos} {a b c : Expr} {f g h : Ef}
end
end DL
namespace DL
open PySem L2 PySem.Spec
def zip3D : List PyData → List PyData → List PyData → List PyData
  | a :: as, b :: bs, c :: cs => .tuple [a, b, c] :: zip3D as bs cs
  | _, _, _ => []
section
variable {K : PySem.W.Frag} {G H : Hp} {m : List Ty} {σ : St} {e : En} {A : List Addr}
end
def zip3S : PyData → PyData → PyData → Option (List PyData)
  | .tuple xs, .tuple ys, .tuple us => some (zip3D xs ys us)
  | _, _, _ => none
def iZp3 (f g h : Ef) : Lf := fun e => (f e).bind fun p => (g p.2).bind fun q => (h q.2).bind fun r => (zip3S p.1 q.1 r.1).bind fun ds => some (ds, r.2)
section
variable {ι : Type} {Xf : ι → Cx} {P : Program} {w : World} {K : PySem.W.Frag} {mg : Str → Option Value} {base : Heap} {n : Nat} [F : Fam Xf P w K mg base n]
variable {m m1 m2 m3 : List Ty} {pos p p2 tpos : Pos} {a b c tg : Expr} {elts : List Expr} {kk : Nat} {f g h : Ef}
include F
end
@[simp] theorem riZp3 {f g h : Ef} {e : En} : iZp3 f g h e = (f e).bind fun p => (g p.2).bind fun q => (h q.2).bind fun r => (zip3S p.1 q.1 r.1).bind fun ds => some (ds, r.2) := rfl
@[simp] theorem xZip3 {xs ys us : List PyData} : zip3S (.tuple xs) (.tuple ys) (.tuple us) = some (zip3D xs ys us) := rfl
end DL
namespace DL
open PySem L2 PySem.Spec
def evens {α : Type} : List α → List α
  | [] => []
  | [a] => [a]
  | a :: _ :: r => a :: evens r
section
open PyProof.Rows PySem.SeqAt PySem.MeetsSeq PySem.MeetsSeq2 PySem.MeetsSeq3 HT
variable {prog : Program} {w : World} {A : Around} {E : Value → Shared → Prop} {s : Shared}
end
section
open PyProof.Rows
end
def gTwo : PyData → Option PyData
  | .tuple xs => some (.tuple (evens xs))
  | _ => none
section
variable {ι : Type} {Xf : ι → Cx} {P : Program} {w : World} {K : PySem.W.Frag} {mg : Str → Option Value} {base : Heap} {n : Nat} [F : Fam Xf P w K mg base n]
variable {m m1 : List Ty} {a : Expr} {ef : Ef} {k : Nat} {p1 p3 pos : Pos}
end
@[simp] theorem xTwo {xs : List PyData} : gTwo (.tuple xs) = some (.tuple (evens xs)) := rfl
end DL
namespace DL
open PySem L2 PySem.Spec
section
variable {K : PySem.W.Frag} {M : Mk} {G H G1 H1 : Hp} {m m1 m2 mn : List Ty} {σ σ1 : St} {e : En} {A A1 : List Addr} {D : Ends} {e' : En} {o : Out} {t u : TS} {f g : Sf} {ef : Ef} {bf : Bf} {lf : Lf}
end
section
variable {ι : Type} {Xf : ι → Cx} {P : Program} {w : World} {K : PySem.W.Frag} {mg : Str → Option Value} {base : Heap} {n : Nat} [F : Fam Xf P w K mg base n]
variable {M : Mk} {m m1 m2 mn ml : List Ty} {pos p p2 spos xp : Pos} {a b c v tg iter : Expr} {st : Stmt} {rest body orelse : List Stmt} {f g : Sf} {ef eg : Ef} {bf : Bf} {lf : Lf} {gf : Gf} {sl : List Nat} {ty t1 t2 t3 : Ty}
end
end DL
namespace DL
open PySem L2 PySem.Spec
def gTpL (k : Nat) (r : Gsf) : Gf := fun d e => match d with | .list ds => if ds.length = k then r ds e else none | _ => none
section
variable {ι : Type} {Xf : ι → Cx} {P : Program} {w : World} {K : PySem.W.Frag} {mg : Str → Option Value} {base : Heap} {n : Nat} [F : Fam Xf P w K mg base n]
variable {m m1 : List Ty} {tpos : Pos} {elts : List Expr} {sl : List Nat} {gs : Gsf}
include F in
theorem pg_tpL {k : Nat} (h : PGDs Xf K m elts sl gs m1) (hk : elts.length = k := by rfl) {kk : Nat} (hpg : ∀ i {t : TGs}, PGs (Xf i) elts t → PG (Xf i) (.Tuple elts kk tpos) (gUnl (Xf i).K k t) := by intro i t h; exact pg_unl (by rfl) h) : PGD Xf K false m (.Tuple elts kk tpos) sl (gTpL k gs) m1 := by
  obtain ⟨g, p, d⟩ := h.ex
  refine ⟨gUnl K k g, fun i => by have := hpg i (p i); rw [F.kk i] at this; exact this, fun {G H σ e A x dd e' Q} st q hf kont => ?_⟩
  cases dd with
  | list ds =>
    have hf : (if ds.length = k then gs ds e else none) = some e' := hf
    split at hf
    · rename_i hl
      obtain ⟨a, xs, rfl, r1, z1, qq⟩ := dq_lst q.strong
      exact ⟨a, xs, rfl, .inl (same_rd st.sub r1), by rw [qq.1]; exact hl, d st qq hf kont⟩
    · cases hf
  | _ => cases hf
end
def un2L : PyData → Option (PyData × PyData)
  | .list [a, b] => some (a, b)
  | _ => none
@[simp] theorem un2L_ok {x y : PyData} : un2L (.list [x, y]) = some (x, y) := rfl
@[simp] theorem rgTpL2 {gf gf2 : Gf} {d : PyData} {e : En} : gTpL 2 (gsCons gf (gsCons gf2 gsNil)) d e = (un2L d).bind fun p => (gf p.1 e).bind fun e => gf2 p.2 e := by
  unfold gTpL un2L
  cases d with
  | list ds =>
    match ds with
    | [] => rfl
    | [a] => rfl
    | [a, b] =>
      show ((gf a e).bind fun e => (gf2 b e).bind fun e => some e) = (gf a e).bind fun e => gf2 b e
      congr 1; funext e1
      cases gf2 b e1 <;> rfl
    | _ :: _ :: _ :: _ => rfl
  | _ => rfl
end DL
namespace DL
open PySem L2 PySem.Spec
section
variable {ι : Type} {Xf : ι → Cx} {P : Program} {w : World} {K : PySem.W.Frag} {mg : Str → Option Value} {base : Heap} {n : Nat} [F : Fam Xf P w K mg base n]
variable {m : List Ty} {pos p p1 p2 : Pos}
include F in
theorem pd_slQ (j : Nat) {x : Str} {c : Int} {k : Nat} (hm : m[j]? = some .q := by rfl) (hN : ∀ i, (Xf i).N[j]? = some x := by intro _; rfl)
    (hv : ∀ i, Vis (Xf i).env.scope x := by first | (intro _; exact Or.inl rfl) | (intro _; exact Or.inr (Or.inl rfl)) | (intro _; exact Or.inr (Or.inr rfl))) (hd : (x == ("__debug__" : Str)) = false := by decide)
    (hcd : (x == ("__classdict__" : Str)) = false := by decide) : PD Xf K m (.Subscript (.Name x p) (.Slice none (some (.Constant (.int c) k p1)) none p2) pos) (.l .s) (eSlQ j none (some c)) m := by
  refine ⟨_, fun i => pe_slice (kkSl (fun X => sl_list) i) (pe_var (X := Xf i) (pos := p) (hN i) (hv i) hd hcd) po_none (po_some pe_int), fun {G H σ e A d e' Q} st hf kk => ?_⟩
  obtain ⟨d', v, Aj, A0, h1, h2, h3, _, _⟩ := ownA_take st.own hm
  obtain ⟨_, a, ns, rfl, rfl, hq, hz⟩ := own_q h3
  unfold eSlQ at hf
  rw [List.getD_eq_getElem?_getD, h1] at hf
  cases hf
  have q1 := dqA_nums (K := K) (G := G) ns
  exact ⟨.ref a, h2, c, rfl, a, _, rfl, same_seqL st.sub hq, ans_lst st (cut_dq q1 _ _) (Nat.le_trans (cutV_length _ _ _) (by rw [List.length_map]; exact hz)) kk⟩
end
end DL
namespace DL
open PySem L2 PySem.Spec
def gDisp2 (k1 v1 k2 v2 : PyData) : Option PyData := match k1, k2 with
  | .int i, .int j => some (.dict (putD (putD [] i v1) j v2))
  | _, _ => none
def eDisp2 (f1 f2 f3 f4 : Ef) : Ef := fun e => (f1 e).bind fun p1 => (f2 p1.2).bind fun p2 => (f3 p2.2).bind fun p3 => (f4 p3.2).bind fun p4 => (gDisp2 p1.1 p2.1 p3.1 p4.1).bind fun d => some (d, p4.2)
section
variable {ι : Type} {Xf : ι → Cx} {P : Program} {w : World} {K : PySem.W.Frag} {mg : Str → Option Value} {base : Heap} {n : Nat} [F : Fam Xf P w K mg base n]
variable {m m1 m2 m3 m4 : List Ty} {pos : Pos} {a b c d0 : Expr} {f1 f2 f3 f4 : Ef}
theorem stt_over {G H : Hp} {m : List Ty} {σ : St} {e : En} {A : List Addr} {p : Addr} {o : HO} (st : Stt K m G H σ e A) (gp : G p = none) (hA : p ∉ A) : Stt K m G (upd H p o) σ e A :=
  ⟨ownA_fr st.own (Same.refl G) (fun a ha => (ownA_at st.own a ha).1) (fun a ha => upd_ne fun z => hA (z ▸ ha)), st.nd, fun b x hx => by rw [upd_ne (ne_of_none hx gp)]; exact st.sub b x hx⟩
theorem pd_disp2 (h1 : PD Xf K m a .s f1 m1) (h2 : PD Xf K m1 b .s f2 m2) (h3 : PD Xf K m2 c .s f3 m3) (h4 : PD Xf K m3 d0 .s f4 m4) : PD Xf K m (.Dict [some a, some c] [b, d0] pos) .d (eDisp2 f1 f2 f3 f4) m4 := by
  obtain ⟨ta, pa, da⟩ := h1.ex
  obtain ⟨tb, pb, db⟩ := h2.ex
  obtain ⟨tc, pc, dc⟩ := h3.ex
  obtain ⟨td, pd, dd⟩ := h4.ex
  refine ⟨_, fun i => pe_disp (pps_cons (pa i) (pb i) (pps_cons (pc i) (pd i) pps_nil)) rfl rfl (by simp) (by simp), fun {G H σ e A d e' Q} st hf k => ?_⟩
  obtain ⟨⟨y1, e1⟩, g1, hf⟩ := oBs hf
  obtain ⟨⟨y2, e2⟩, g2, hf⟩ := oBs hf
  obtain ⟨⟨y3, e3⟩, g3, hf⟩ := oBs hf
  obtain ⟨⟨y4, e4⟩, g4, hf⟩ := oBs hf
  obtain ⟨dz, g5, hf⟩ := oBs hf
  cases hf
  intro p hp
  obtain ⟨s0, st0, nd0, gp⟩ := new_o (o := .dK []) (B := []) st hp
  refine da st0 g1 fun G1 H1 x1 B1 A1 s1 st1 o1 nd1 => ?_
  cases o1 with
  | s q1 =>
    refine db st1 g2 fun G2 H2 x2 B2 A2 s2 st2 o2 nd2 => ?_
    cases o2 with
    | s q2 =>
      refine dc st2 g3 fun G3 H3 x3 B3 A3 s3 st3 o3 nd3 => ?_
      cases o3 with
      | s q3 =>
        refine dd st3 g4 fun G4 H4 x4 B4 A4 s4 st4 o4 nd4 => ?_
        cases o4 with
        | s q4 =>
          cases y1 with
          | int i =>
            cases y3 with
            | int j =>
              cases (show some (PyData.dict (putD (putD [] i y2) j y4)) = some _ from g5)
              obtain rfl := dq_int q1
              obtain rfl := dq_int q3
              have q2' := q2.mono (s3.sg.trans s4.sg)
              obtain ⟨S, ndS, gS, hS⟩ := Step.seq (Av := [p]) (A1 := A) s0 (fun z hz => by rw [List.mem_singleton.mp hz]; exact ⟨gp, _, upd_same⟩) nd0 (((s1.seq0 s2).seq0 s3).seq0 s4) st4.nd
              have gp4 := gS p (List.mem_singleton.mpr rfl)
              have hp4 : H4 p = some (.dK []) := (hS p (List.mem_singleton.mpr rfl)).trans upd_same
              have pA : p ∉ A4 := (List.nodup_cons.mp ndS).1
              refine ⟨hp4, [(Sum.inl i, x2), (Sum.inl j, x4)], rfl, by simp, ?_⟩
              have em : mergeK [] [((Sum.inl i : Key), x2), (Sum.inl j, x4)] = (putI (putI [] i x2) j x4).map kvV := by
                show putK (putK [] (Sum.inl i) x2) (Sum.inl j) x4 = _
                rw [← putK_map, ← putK_map]; rfl
              rw [em]
              have ek : ((putI (putI ([] : List (Int × V)) i x2) j x4).map (·.1)) = (putI (putI ([] : List (Int × PyData)) i y2) j y4).map (·.1) := putI_keys (putI_keys (by rfl) i x2 y2) j x4 y4
              have er : DqA K G4 ((putI (putI ([] : List (Int × V)) i x2) j x4).map (·.2)) ((putI (putI ([] : List (Int × PyData)) i y2) j y4).map (·.2)) := put_rel j q4 (putI_keys (by rfl) i x2 y2) (put_rel i q2' (kvs := []) (ds := []) rfl DqA.nil)
              have l1 := putI_len ([] : List (Int × V)) i x2
              have l2 := putI_len (putI ([] : List (Int × V)) i x2) j x4
              have ez : (putI (putI ([] : List (Int × V)) i x2) j x4).length ≤ sizeLine := Nat.le_trans (show _ ≤ 2 by simp at l1; omega) (by decide)
              have ed : PyData.dict (putD (putD [] i y2) j y4) = .dict ((putI (putI [] i y2) j y4).map kvD) := by
                rw [← putD_map, ← putD_map]; rfl
              rw [ed] at k
              have S' : Step A G H ([p] ++ A4) G4 (upd H4 p (.dK ((putI (putI [] i x2) j x4).map kvV))) := ⟨S.sg, fun z o hz hzA => by rw [upd_ne (ne_of_none hz hp)]; exact S.fr z o hz hzA, S.own, S.gnew⟩
              exact k _ _ _ [p] A4 S' (stt_over st4 gp4 pA) (.d gp4 upd_same ek er ez) ndS
            | _ => cases g5
          | _ => cases g5
end
@[simp] theorem reDisp2 {f1 f2 f3 f4 : Ef} {e : En} : eDisp2 f1 f2 f3 f4 e = (f1 e).bind fun p1 => (f2 p1.2).bind fun p2 => (f3 p2.2).bind fun p3 => (f4 p3.2).bind fun p4 => (gDisp2 p1.1 p2.1 p3.1 p4.1).bind fun d => some (d, p4.2) := rfl
end DL
namespace DL
open PySem L2 PySem.Spec
section
variable {ι : Type} {Xf : ι → Cx} {P : Program} {w : World} {K : PySem.W.Frag} {mg : Str → Option Value} {base : Heap} {n : Nat} [F : Fam Xf P w K mg base n]
variable {m : List Ty} {pos : Pos}
include F
end
end DL
namespace DL
open PySem L2 PySem.Spec
section
variable {K : PySem.W.Frag} {G H : Hp} {m : List Ty} {σ : St} {e : En} {A : List Addr}
end
def zipMS : PyData → PyData → Option (List PyData)
  | .tuple xs, .list ys => some (zipD xs ys)
  | _, _ => none
def iZpM (f g : Ef) : Lf := fun e => (f e).bind fun p => (g p.2).bind fun q => (zipMS p.1 q.1).bind fun ds => some (ds, q.2)
section
variable {ι : Type} {Xf : ι → Cx} {P : Program} {w : World} {K : PySem.W.Frag} {mg : Str → Option Value} {base : Heap} {n : Nat} [F : Fam Xf P w K mg base n]
variable {m m1 m2 m3 : List Ty} {pos p p2 tpos : Pos} {a b c tg : Expr} {elts : List Expr} {kk : Nat} {f g h : Ef}
include F
end
@[simp] theorem riZpM {f g : Ef} {e : En} : iZpM f g e = (f e).bind fun p => (g p.2).bind fun q => (zipMS p.1 q.1).bind fun ds => some (ds, q.2) := rfl
@[simp] theorem xZipM {xs ys : List PyData} : zipMS (.tuple xs) (.list ys) = some (zipD xs ys) := rfl
end DL
namespace DL
open PySem L2 PySem.Spec
section
variable {ι : Type} {Xf : ι → Cx} {P : Program} {w : World} {K : PySem.W.Frag} {mg : Str → Option Value} {base : Heap} {n : Nat} [F : Fam Xf P w K mg base n]
variable {m : List Ty} {pos p1 : Pos}
theorem pq_neg {c : Int} {k : Nat} : PQ Xf K m (.UnaryOp .USub (.Constant (.int c) k p1) pos) (qC (.int (-c))) :=
  ⟨_, fun j => pe_un un_neg pe_int, fun {G H σ e A d Q} st hf kk => by cases hf; exact ⟨c, rfl, kk H _ (Same.refl H) (.int _)⟩⟩
end
end DL
namespace DL
open PySem L2 PySem.Spec
def asB : PyData → Option Bool
  | .bool b => some b
  | _ => none
def ifB {α : Type} (v : PyData) (a b : Option α) : Option α := match v with
  | .bool true => a
  | .bool false => b
  | _ => none
def grd (b : Bool) : Option Unit := if b = true then some () else none
def un2 : PyData → Option (PyData × PyData)
  | .tuple [a, b] => some (a, b)
  | _ => none
def un3 : PyData → Option (PyData × PyData × PyData)
  | .tuple [a, b, c] => some (a, b, c)
  | _ => none
def un4 : PyData → Option (PyData × PyData × PyData × PyData)
  | .tuple [a, b, c, d] => some (a, b, c, d)
  | _ => none
def gApp (l x : PyData) : Option PyData := match l with
  | .list ds => if ds.length < sizeLine then some (.list (ds ++ [x])) else none
  | _ => none
def gPop : PyData → Option (PyData × PyData)
  | .list ds => (ds[ds.length - 1]?).bind fun x => some (x, .list ds.dropLast)
  | _ => none
def gSet (l i x : PyData) : Option PyData := match l, i with
  | .list ds, .int k => (ixN ds.length k).bind fun j => some (.list (ds.set j x))
  | _, _ => none
def gEn (d : PyData) : Option (List PyData) := (seqD d).bind fun ds => some (enumD 0 ds)
def consO {α : Type} : Option α → List α → List α
  | some y, ys => y :: ys
  | none, ys => ys
def mapS {α β : Type} : List α → (α → Option β) → Option (List β)
  | [], _ => some []
  | x :: xs, f => (f x).bind fun y => (mapS xs f).bind fun ys => some (y :: ys)
def filS {α β : Type} : List α → (α → Option (Option β)) → Option (List β)
  | [], _ => some []
  | x :: xs, f => (f x).bind fun y => (filS xs f).bind fun ys => some (consO y ys)
def mapE {α β σ : Type} : List α → (α → σ → Option (β × σ)) → σ → Option (List β × σ)
  | [], _, s => some ([], s)
  | x :: xs, f, s => (f x s).bind fun p => (mapE xs f p.2).bind fun q => some (p.1 :: q.1, q.2)
def foldS {α σ : Type} : List α → (α → σ → Option σ) → σ → Option σ
  | [], _, s => some s
  | x :: xs, f, s => (f x s).bind fun s' => foldS xs f s'
def forS {α σ : Type} : List α → (α → σ → Option (Out × σ)) → σ → Option (Out × σ)
  | [], _, s => some (.nx, s)
  | x :: xs, f, s => (f x s).bind fun p => match p.1 with
    | .nx => forS xs f p.2
    | .ct => forS xs f p.2
    | .bk => some (.nx, p.2)
    | .rt r => some (.rt r, p.2)
def whS {σ : Type} : Nat → (σ → Option Bool) → (σ → Option σ) → σ → Option σ
  | 0, _, _, _ => none
  | k + 1, c, f, s => (c s).bind fun b => if b = true then (f s).bind fun s' => whS k c f s' else some s
def thenS {σ ρ : Type} (p : Out × σ) (k : σ → Option ρ) (r : PyData → σ → Option ρ) : Option ρ := match p.1 with
  | .rt d => r d p.2
  | _ => k p.2
def ctnx : Out → Out
  | .ct => .nx
  | o => o
theorem lc_map {vs : List Nat} {gf : Gf} {ef : Ef} {E : En} (f : PyData → Option PyData) (h : ∀ d, ((gf d E).bind fun e1 => (ef e1).bind fun q => some (q.1, restE E q.2 vs)) = (f d).bind fun r => some (r, E)) :
    ∀ xs, lcL vs gf bYes ef xs E = (mapS xs f).bind fun r => some (r, E)
  | [] => rfl
  | x :: xs => by
    have ih := lc_map f h xs
    have hx := h x
    unfold lcL mapS
    simp only [bYes, Option.bind_some, if_true]
    cases hf : f x with
    | none =>
      rw [hf] at hx
      simp only [Option.bind_none] at hx
      cases hg : gf x E with
      | none => rfl
      | some e1 =>
        rw [hg] at hx
        simp only [Option.bind_some, Option.bind_eq_none_iff] at hx
        cases he : ef e1 with
        | none => simp [he]
        | some q => exact absurd (hx q he) (by simp)
    | some y =>
      rw [hf] at hx
      cases hg : gf x E with
      | none => rw [hg] at hx; simp at hx
      | some e1 =>
        rw [hg] at hx
        simp only [Option.bind_some] at hx ⊢
        cases he : ef e1 with
        | none => rw [he] at hx; simp at hx
        | some q =>
          rw [he] at hx
          simp only [Option.bind_some, Option.some.injEq, Prod.mk.injEq] at hx ⊢
          rw [hx.2, ih, hx.1]
          cases mapS xs f <;> rfl
theorem lc_mapE {σ : Type} {vs : List Nat} {gf : Gf} {ef : Ef} (emb : σ → En) (f : PyData → σ → Option (PyData × σ)) (h : ∀ d s, ((gf d (emb s)).bind fun e1 => (ef e1).bind fun q => some (q.1, restE (emb s) q.2 vs)) = (f d s).bind fun r => some (r.1, emb r.2)) :
    ∀ xs s, lcL vs gf bYes ef xs (emb s) = (mapE xs f s).bind fun r => some (r.1, emb r.2)
  | [], s => rfl
  | x :: xs, s => by
    have hx := h x s
    unfold lcL mapE
    simp only [bYes, Option.bind_some, if_true]
    cases hf : f x s with
    | none =>
      rw [hf] at hx
      simp only [Option.bind_none] at hx
      cases hg : gf x (emb s) with
      | none => rfl
      | some e1 =>
        rw [hg] at hx
        simp only [Option.bind_some, Option.bind_eq_none_iff] at hx
        cases he : ef e1 with
        | none => simp [he]
        | some q => exact absurd (hx q he) (by simp)
    | some y =>
      rw [hf] at hx
      cases hg : gf x (emb s) with
      | none => rw [hg] at hx; simp at hx
      | some e1 =>
        rw [hg] at hx
        simp only [Option.bind_some] at hx ⊢
        cases he : ef e1 with
        | none => rw [he] at hx; simp at hx
        | some q =>
          rw [he] at hx
          simp only [Option.bind_some, Option.some.injEq, Prod.mk.injEq] at hx ⊢
          rw [hx.2, lc_mapE emb f h xs y.2, hx.1]
          cases mapE xs f y.2 <;> rfl
def lcB (vs : List Nat) (gf : Gf) (tf : Bf) (ef : Ef) (d : PyData) (E : En) : Option (Option PyData × En) :=
  (gf d E).bind fun e1 => (tf e1).bind fun p => if p.1 = true then (ef p.2).bind fun q => some (some q.1, restE E q.2 vs) else some (none, restE E p.2 vs)
theorem lcL_B {vs : List Nat} {gf : Gf} {tf : Bf} {ef : Ef} {x : PyData} {xs : List PyData} {E : En} : lcL vs gf tf ef (x :: xs) E = (lcB vs gf tf ef x E).bind fun p => (lcL vs gf tf ef xs p.2).bind fun r => some (consO p.1 r.1, r.2) := by
  show ((gf x E).bind fun e1 => (tf e1).bind fun p => if p.1 = true then (ef p.2).bind fun q => (lcL vs gf tf ef xs (restE E q.2 vs)).bind fun r => some (q.1 :: r.1, r.2) else lcL vs gf tf ef xs (restE E p.2 vs)) = _
  unfold lcB
  cases gf x E with
  | none => rfl
  | some e1 =>
    simp only [Option.bind_some]
    cases tf e1 with
    | none => rfl
    | some p =>
      simp only [Option.bind_some]
      split
      · cases ef p.2 <;> rfl
      · simp only [Option.bind_some]
        cases lcL vs gf tf ef xs (restE E p.2 vs) <;> rfl
theorem lc_fil {vs : List Nat} {gf : Gf} {tf : Bf} {ef : Ef} {E : En} (f : PyData → Option (Option PyData)) (h : ∀ d, lcB vs gf tf ef d E = (f d).bind fun r => some (r, E)) :
    ∀ xs, lcL vs gf tf ef xs E = (filS xs f).bind fun r => some (r, E)
  | [] => rfl
  | x :: xs => by
    rw [lcL_B, h x]
    unfold filS
    cases hf : f x with
    | none => rfl
    | some y =>
      simp only [Option.bind_some]
      rw [lc_fil f h xs]
      cases filS xs f <;> rfl
theorem for_fold {σ : Type} {gf : Gf} {sf : Sf} (emb : σ → En) (f : PyData → σ → Option σ) (h : ∀ d s, ((gf d (emb s)).bind fun e1 => (sf e1).bind fun p => some (ctnx p.1, p.2)) = (f d s).bind fun r => some (.nx, emb r)) :
    ∀ xs s, forL gf sf xs (emb s) = (foldS xs f s).bind fun r => some (.nx, emb r)
  | [], s => rfl
  | x :: xs, s => by
    have hx := h x s
    unfold forL foldS
    cases hg : gf x (emb s) with
    | none =>
      rw [hg] at hx
      cases hf : f x s with
      | none => rfl
      | some y => rw [hf] at hx; simp at hx
    | some e1 =>
      rw [hg] at hx
      simp only [Option.bind_some] at hx ⊢
      cases he : sf e1 with
      | none =>
        rw [he] at hx
        cases hf : f x s with
        | none => rfl
        | some y => rw [hf] at hx; simp at hx
      | some p =>
        rw [he] at hx
        cases hf : f x s with
        | none => rw [hf] at hx; simp at hx
        | some y =>
          rw [hf] at hx
          simp only [Option.bind_some, Option.some.injEq, Prod.mk.injEq] at hx ⊢
          have ih := for_fold emb f h xs y
          obtain ⟨o, e2⟩ := p
          simp only at hx ⊢
          rw [hx.2]
          cases o with
          | nx => exact ih
          | ct => exact ih
          | bk => cases hx.1
          | rt d => cases hx.1
theorem for_ret {σ : Type} {gf : Gf} {sf : Sf} {jr : List Nat} (emb : σ → En) (f : PyData → σ → Option (Out × σ)) (h : ∀ d s, ((gf d (emb s)).bind fun e1 => (sf e1).bind fun p => some (ctnx p.1, p.2)) = (f d s).bind fun r => some (ctnx r.1, outE [] jr r.1 (emb r.2))) :
    ∀ xs s, forL gf sf xs (emb s) = (forS xs f s).bind fun r => thenS r (fun s' => some (.nx, emb s')) (fun d s' => some (.rt d, fgE jr (emb s')))
  | [], s => rfl
  | x :: xs, s => by
    have hx := h x s
    unfold forL forS
    cases hg : gf x (emb s) with
    | none =>
      rw [hg] at hx
      cases hf : f x s with
      | none => rfl
      | some y => rw [hf] at hx; simp at hx
    | some e1 =>
      rw [hg] at hx
      simp only [Option.bind_some] at hx ⊢
      cases he : sf e1 with
      | none =>
        rw [he] at hx
        cases hf : f x s with
        | none => rfl
        | some y => rw [hf] at hx; simp at hx
      | some p =>
        rw [he] at hx
        cases hf : f x s with
        | none => rw [hf] at hx; simp at hx
        | some y =>
          rw [hf] at hx
          simp only [Option.bind_some, Option.some.injEq, Prod.mk.injEq] at hx ⊢
          have ih := for_ret emb f h xs y.2
          obtain ⟨o, e2⟩ := p
          obtain ⟨q, s2⟩ := y
          simp only at hx ih ⊢
          rw [hx.2]
          cases q <;> cases o <;> first | (cases hx.1; done) | exact ih | (have := hx.1; simp [ctnx] at this; done) | skip
          · rfl
          · have := hx.1; simp only [ctnx, Out.rt.injEq] at this; subst this; rfl
theorem wh_fold {σ : Type} {cf : Bf} {sf : Sf} (emb : σ → En) (c : σ → Option Bool) (f : σ → Option σ) (hc : ∀ s, cf (emb s) = (c s).bind fun b => some (b, emb s)) (h : ∀ s, ((sf (emb s)).bind fun p => some (ctnx p.1, p.2)) = (f s).bind fun r => some (.nx, emb r)) :
    ∀ n s, whL cf sf n (emb s) = (whS n c f s).bind fun r => some (.nx, emb r)
  | 0, s => rfl
  | n + 1, s => by
    have hx := h s
    unfold whL whS
    rw [hc]
    cases hcs : c s with
    | none => rfl
    | some b =>
      simp only [Option.bind_some]
      cases b with
      | false => rfl
      | true =>
        simp only [if_true]
        cases he : sf (emb s) with
        | none =>
          rw [he] at hx
          cases hf : f s with
          | none => rfl
          | some y => rw [hf] at hx; simp at hx
        | some p =>
          rw [he] at hx
          cases hf : f s with
          | none => rw [hf] at hx; simp at hx
          | some y =>
            rw [hf] at hx
            simp only [Option.bind_some, Option.some.injEq, Prod.mk.injEq] at hx ⊢
            have ih := wh_fold emb c f hc h n y
            obtain ⟨o, e2⟩ := p
            simp only at hx ⊢
            rw [hx.2]
            cases o with
            | nx => exact ih
            | ct => exact ih
            | bk => cases hx.1
            | rt d => cases hx.1
end DL
namespace DL
open PySem L2 PySem.Spec
def seqR (p : Out × En) (k : En → Option (Out × En)) : Option (Out × En) := match p.1 with
  | .nx => k p.2
  | o => some (o, p.2)
def retR (ptys : List Ty) (ds : List PyData) (p : Out × En) : Option (PyData × List PyData) := match p.1 with
  | .rt d => some (d, fins ptys ds p.2)
  | .nx => some (.none, fins ptys ds p.2)
  | _ => none
def two {α : Type} (xs : List PyData) (k : PyData → PyData → Option α) : Option α := match xs with
  | [x, y] => k x y
  | _ => none
def three {α : Type} (xs : List PyData) (k : PyData → PyData → PyData → Option α) : Option α := match xs with
  | [x, y, z] => k x y z
  | _ => none
def gLenL : PyData → Option PyData
  | .list xs => some (.int xs.length)
  | _ => none
section
variable {f g h : Ef} {a b : Ef} {e e' e1 e2 : En} {j : Nat} {d d1 d2 : PyData} {fb gb : Bf} {fr : Lf} {sf sg : Sf} {fq gq gi : Gq} {pt : Pf} {gf gf2 gf3 gf4 : Gf} {gs : Gsf} {o : Out} {α β : Type}
@[simp] theorem seqR_nx {k : En → Option (Out × En)} : seqR (.nx, e) k = k e := rfl
@[simp] theorem seqR_bk {k : En → Option (Out × En)} : seqR (.bk, e) k = some (.bk, e) := rfl
@[simp] theorem seqR_ct {k : En → Option (Out × En)} : seqR (.ct, e) k = some (.ct, e) := rfl
@[simp] theorem seqR_rt {k : En → Option (Out × En)} : seqR (.rt d, e) k = some (.rt d, e) := rfl
@[simp] theorem retR_nx {ptys : List Ty} {ds : List PyData} : retR ptys ds (.nx, e) = some (.none, fins ptys ds e) := rfl
@[simp] theorem retR_rt {ptys : List Ty} {ds : List PyData} : retR ptys ds (.rt d, e) = some (d, fins ptys ds e) := rfl
@[simp] theorem two_ok {x y : PyData} {k : PyData → PyData → Option α} : two [x, y] k = k x y := rfl
@[simp] theorem three_ok {x y z : PyData} {k : PyData → PyData → PyData → Option α} : three [x, y, z] k = k x y z := rfl
@[simp] theorem ctnx_nx : ctnx .nx = .nx := rfl
@[simp] theorem ctnx_ct : ctnx .ct = .nx := rfl
@[simp] theorem ctnx_bk : ctnx .bk = .bk := rfl
@[simp] theorem ctnx_rt : ctnx (.rt d) = .rt d := rfl
@[simp] theorem outE_rt {js jr : List Nat} : outE js jr (.rt d) e = fgE jr e := rfl
@[simp] theorem outE_nx {js jr : List Nat} : outE js jr .nx e = fgE js e := rfl
@[simp] theorem outE_bk {js jr : List Nat} : outE js jr .bk e = fgE js e := rfl
@[simp] theorem outE_ct {js jr : List Nat} : outE js jr .ct e = fgE js e := rfl
@[simp] theorem fgE_nil : fgE [] e = e := rfl
@[simp] theorem fgE_cons {js : List Nat} : fgE (j :: js) e = fgE js (e.set j .none) := rfl
theorem ite_bind' {c : Prop} [Decidable c] {x y : Option α} {k : α → Option β} : (if c then x else y).bind k = if c then x.bind k else y.bind k := by split <;> rfl
theorem ifB_bind {v : PyData} {x y : Option α} {k : α → Option β} : (ifB v x y).bind k = ifB v (x.bind k) (y.bind k) := by
  unfold ifB
  split <;> rfl
theorem thenS_bind {σ : Type} {p : Out × σ} {K : σ → Option α} {R : PyData → σ → Option α} {k : α → Option β} : (thenS p K R).bind k = thenS p (fun s => (K s).bind k) (fun d s => (R d s).bind k) := by
  unfold thenS
  split <;> rfl
@[simp] theorem thenS_nx {σ : Type} {s : σ} {K : σ → Option α} {R : PyData → σ → Option α} : thenS (.nx, s) K R = K s := rfl
@[simp] theorem thenS_rt {σ : Type} {s : σ} {K : σ → Option α} {R : PyData → σ → Option α} : thenS (.rt d, s) K R = R d s := rfl
@[simp] theorem rVar : eVar j e = some (e.getD j .none, e) := rfl
@[simp] theorem rC : eC d e = some (d, e) := rfl
@[simp] theorem r1 {gg : PyData → Option PyData} : DL.e1 gg a e = (a e).bind fun p => (gg p.1).bind fun r => some (r, p.2) := rfl
@[simp] theorem r2 {gg : PyData → PyData → Option PyData} : DL.e2 gg a b e = (a e).bind fun p => (b p.2).bind fun q => (gg p.1 q.1).bind fun r => some (r, q.2) := rfl
@[simp] theorem rTup : eTup fr e = (fr e).bind fun p => some (.tuple p.1, p.2) := rfl
@[simp] theorem rLst : eLst fr e = (fr e).bind fun p => some (.list p.1, p.2) := rfl
@[simp] theorem rlNil : lNil e = some ([], e) := rfl
@[simp] theorem rlCons : lCons f fr e = (f e).bind fun p => (fr p.2).bind fun q => some (p.1 :: q.1, q.2) := rfl
@[simp] theorem rLend : eLend e = some (.none, e) := rfl
@[simp] theorem rCall {Fn : DFn} : eCall Fn fr e = (fr e).bind fun p => (Fn p.1).bind fun q => some (q.1, p.2) := rfl
@[simp] theorem rCallL {Fn : DFn} {k : Nat} : eCallL Fn k j fr e = (fr e).bind fun p => (Fn (p.1.set k (p.2.getD j .none))).bind fun q => some (q.1, p.2.set j (q.2.getD k .none)) := rfl
@[simp] theorem rCallL2 {Fn : DFn} {k1 j1 k2 j2 : Nat} : eCallL2 Fn k1 j1 k2 j2 fr e = (fr e).bind fun p => (Fn ((p.1.set k1 (p.2.getD j1 .none)).set k2 (p.2.getD j2 .none))).bind fun q => some (q.1, (p.2.set j2 (q.2.getD k2 .none)).set j1 (q.2.getD k1 .none)) := rfl
@[simp] theorem rbOf : bOf f e = (f e).bind fun p => (gTruth p.1).bind fun b => some (b, p.2) := rfl
@[simp] theorem rbT : bT f e = (f e).bind fun p => (asB p.1).bind fun b => some (b, p.2) := by
  show ((f e).bind fun p => match p.1 with | .bool b => some (b, p.2) | _ => none : Option (Bool × En)) = _
  congr 1; funext p; cases p.1 <;> rfl
@[simp] theorem rbAnd : bAnd fb gb e = (fb e).bind fun p => if p.1 = true then gb p.2 else some (false, p.2) := rfl
@[simp] theorem rbOr : bOr fb gb e = (fb e).bind fun p => if p.1 = true then some (true, p.2) else gb p.2 := rfl
@[simp] theorem rbNot : bNot fb e = (fb e).bind fun p => some (!p.1, p.2) := rfl
@[simp] theorem reAnd : eAnd f g e = (f e).bind fun p => ifB p.1 (g p.2) (some (.bool false, p.2)) := by
  show ((f e).bind fun p => match p.1 with
    | .bool true => g p.2
    | .bool false => some (.bool false, p.2)
    | _ => none : Option (PyData × En)) = _
  congr 1
@[simp] theorem reOr : eOr f g e = (f e).bind fun p => ifB p.1 (some (.bool true, p.2)) (g p.2) := by
  show ((f e).bind fun p => match p.1 with
    | .bool true => some (.bool true, p.2)
    | .bool false => g p.2
    | _ => none : Option (PyData × En)) = _
  congr 1
@[simp] theorem reIf : eIf fb f g e = (fb e).bind fun p => if p.1 = true then f p.2 else g p.2 := rfl
@[simp] theorem rChain {g1 g2 : PyData → PyData → Option PyData} : eChain g1 g2 f g h e = (f e).bind fun p => (g p.2).bind fun q => (g1 p.1 q.1).bind fun r => ifB r ((h q.2).bind fun t => (g2 q.1 t.1).bind fun z => some (z, t.2)) (some (.bool false, q.2)) := by
  show ((f e).bind fun p => (g p.2).bind fun q => (g1 p.1 q.1).bind fun r => match r with
    | .bool true => (h q.2).bind fun t => (g2 q.1 t.1).bind fun z => some (z, t.2)
    | .bool false => some (.bool false, q.2)
    | _ => none : Option (PyData × En)) = _
  congr 1
@[simp] theorem rqVar : qVar j e = some (e.getD j .none) := rfl
@[simp] theorem rqC : qC d e = some d := rfl
@[simp] theorem rq1 {gg : PyData → Option PyData} : DL.q1 gg fq e = (fq e).bind gg := rfl
@[simp] theorem rq2 {gg : PyData → PyData → Option PyData} : DL.q2 gg fq gq e = (fq e).bind fun x => (gq e).bind fun y => gg x y := rfl
@[simp] theorem reQ : eQ fq e = (fq e).bind fun d => (grd (scD d)).bind fun _ => some (d, e) := by
  show ((fq e).bind fun d => if scD d = true then some (d, e) else none) = _
  congr 1; funext d; unfold grd; split <;> rfl
@[simp] theorem rbQ : bQ fq e = (fq e).bind fun d => (gTruth d).bind fun b => some (b, e) := by
  show ((fq e).bind fun d => (gTruth d).map fun b => (b, e)) = _
  congr 1; funext d; cases gTruth d <;> rfl
@[simp] theorem rbQT : bQT fq e = (fq e).bind fun d => (asB d).bind fun b => some (b, e) := by
  show ((fq e).bind fun d => match d with | .bool b => some (b, e) | _ => none : Option (Bool × En)) = _
  congr 1; funext d; cases d <;> rfl
@[simp] theorem rqS : qS fq e = (fq e).bind fun d => (grd (scD d)).bind fun _ => some d := by
  show ((fq e).bind fun d => if scD d = true then some d else none) = _
  congr 1; funext d; unfold grd; split <;> rfl
@[simp] theorem rpVar : pVar j e d = e.set j d := rfl
@[simp] theorem rSub1 : gSub1 gq gi e = (gq e).bind fun d => (gi e).bind fun i => itemD d i := rfl
@[simp] theorem rpSub1 : pSub1 gq gi pt e d = pt e (setD ((gq e).getD .none) ((gi e).getD .none) d) := rfl
@[simp] theorem rItm : eItm gq gi e = (gq e).bind fun d => (gi e).bind fun i => (itemD d i).bind fun x => some (x, e) := by
  show ((gq e).bind fun d => (gi e).bind fun i => (itemD d i).map fun x => (x, e)) = _
  congr 1; funext d; congr 1; funext i; cases itemD d i <;> rfl
@[simp] theorem rItmG : eItmG j f e = (f e).bind fun p => (itemD (p.2.getD j .none) p.1).bind fun x => some (x, p.2) := by
  show ((f e).bind fun p => (itemD (p.2.getD j .none) p.1).map fun x => (x, p.2)) = _
  congr 1; funext p; cases itemD (p.2.getD j .none) p.1 <;> rfl
@[simp] theorem rApp : eApp j f e = (f e).bind fun p => (gApp (e.getD j .none) p.1).bind fun l => some (.none, p.2.set j l) := by
  show ((f e).bind fun p => match e.getD j .none with
    | .list ds => if ds.length < sizeLine then some (.none, p.2.set j (.list (ds ++ [p.1]))) else none
    | _ => none : Option (PyData × En)) = _
  congr 1; funext p
  unfold gApp
  cases e.getD j .none with
  | list ds => show (if _ then _ else _) = (if _ then _ else _ : Option PyData).bind _; split <;> rfl
  | _ => rfl
@[simp] theorem rAppV : eAppV gq pt gi e = (gq e).bind fun d => (gi e).bind fun x => (gApp d x).bind fun l => some (.none, pt e l) := by
  show ((gq e).bind fun d => (gi e).bind fun x => match d with
    | .list ds => if ds.length < sizeLine then some (.none, pt e (.list (ds ++ [x]))) else none
    | _ => none : Option (PyData × En)) = _
  congr 1; funext d; congr 1; funext x
  unfold gApp
  cases d with
  | list ds => show (if _ then _ else _) = (if _ then _ else _ : Option PyData).bind _; split <;> rfl
  | _ => rfl
@[simp] theorem rPop : ePop gq pt e = (gq e).bind fun d => (gPop d).bind fun p => some (p.1, pt e p.2) := by
  show ((gq e).bind fun d => match d with
    | .list ds => (ds[ds.length - 1]?).map fun x => (x, pt e (.list ds.dropLast))
    | _ => none : Option (PyData × En)) = _
  congr 1; funext d
  unfold gPop
  cases d with
  | list ds => show (ds[ds.length - 1]?).map _ = ((ds[ds.length - 1]?).bind _).bind _; cases ds[ds.length - 1]? <;> rfl
  | _ => rfl
@[simp] theorem rPopAt : ePopAt gq pt gi e = (gq e).bind fun d => (gi e).bind fun i => (gPopAt d i).bind fun p => some (p.1, pt e p.2) := by
  show ((gq e).bind fun d => (gi e).bind fun i => match d, i with
    | .list ds, .int k => if -(2 ^ 63) ≤ k ∧ k < 2 ^ 63 then (ixN ds.length k).bind fun j => (ds[j]?).map fun x => (x, pt e (.list (ds.eraseIdx j))) else none
    | _, _ => none : Option (PyData × En)) = _
  congr 1; funext d; congr 1; funext i
  unfold gPopAt
  cases d <;> cases i <;> first | rfl | skip
  rename_i ds k
  show (if _ then _ else _) = (if _ then _ else _ : Option (PyData × PyData)).bind _
  split
  · cases ixN ds.length k with
    | none => rfl
    | some j => show (ds[j]?).map _ = ((ds[j]?).bind _).bind _; cases ds[j]? <;> rfl
  · rfl
@[simp] theorem reNotT : eNotT fb e = (fb e).bind fun p => some (.bool (!p.1), p.2) := rfl
@[simp] theorem rPopG : ePopG j f e = (f e).bind fun p => (gPopAt (p.2.getD j .none) p.1).bind fun q => some (q.1, p.2.set j q.2) := rfl
@[simp] theorem rExt : eExt j f e = (f e).bind fun p => (gExt (p.2.getD j .none) p.1).bind fun l => some (.none, p.2.set j l) := rfl
@[simp] theorem rsSet : sSet gq pt gi f e = (f e).bind fun p => (gq p.2).bind fun d => (gi p.2).bind fun i => (gSet d i p.1).bind fun l => some (.nx, pt p.2 l) := by
  show ((f e).bind fun p => (gq p.2).bind fun d => (gi p.2).bind fun i => match d, i with
    | .list ds, .int k => (ixN ds.length k).map fun j => (.nx, pt p.2 (.list (ds.set j p.1)))
    | _, _ => none : Option (Out × En)) = _
  congr 1; funext p; congr 1; funext d; congr 1; funext i
  unfold gSet
  cases d <;> cases i <;> first | rfl | skip
  rename_i ds k
  show (ixN ds.length k).map _ = ((ixN ds.length k).bind _).bind _
  cases ixN ds.length k <;> rfl
@[simp] theorem reSl {gg : PyData → Option Int → Option Int → Option PyData} {l u : Of} : eSl gg a l u e = (a e).bind fun p => (l p.2).bind fun q => (u q.2).bind fun r => (gg p.1 q.1 r.1).bind fun d => some (d, r.2) := rfl
@[simp] theorem roNone : oNone e = some (none, e) := rfl
@[simp] theorem roSome : oSome f e = (f e).bind fun p => (prt p.1).bind fun i => some (i, p.2) := rfl
@[simp] theorem reLenQ : eLenQ j e = (gLenL (e.getD j .none)).bind fun d => some (d, e) := by
  show (match e.getD j .none with | .list xs => some (.int xs.length, e) | _ => none : Option (PyData × En)) = _
  cases e.getD j .none <;> rfl
@[simp] theorem reSlQ {lo hi : Option Int} : eSlQ j lo hi e = (gSlL (e.getD j .none) lo hi).bind fun d => some (d, e) := by
  show (gSlL (e.getD j .none) lo hi).map (fun d => (d, e)) = _
  cases gSlL (e.getD j .none) lo hi <;> rfl
@[simp] theorem rsNil : sNil e = some (.nx, e) := rfl
@[simp] theorem rsSeq : sSeq sf sg e = (sf e).bind fun p => seqR p sg := by
  show ((sf e).bind fun p => match p.1 with
    | .nx => sg p.2
    | o => some (o, p.2) : Option (Out × En)) = _
  congr 1
@[simp] theorem rsIf : sIf fb sf sg e = (fb e).bind fun p => if p.1 = true then sf p.2 else sg p.2 := rfl
@[simp] theorem rsRet : sRet f e = (f e).bind fun p => some (.rt p.1, p.2) := by
  show (f e).map _ = _
  cases f e <;> rfl
@[simp] theorem rsRetN : sRetN e = some (.rt .none, e) := rfl
@[simp] theorem rsBrk : sBrk e = some (.bk, e) := rfl
@[simp] theorem rsCnt : sCnt e = some (.ct, e) := rfl
@[simp] theorem rsNever : sNever e = none := rfl
@[simp] theorem rsDrop : sDrop f e = (f e).bind fun p => some (.nx, p.2) := by
  show (f e).map _ = _
  cases f e <;> rfl
@[simp] theorem rsAsg : sAsg j f e = (f e).bind fun p => some (.nx, p.2.set j p.1) := by
  show (f e).map _ = _
  cases f e <;> rfl
@[simp] theorem rsAug {gg : PyData → PyData → Option PyData} : sAug j gg f e = (f e).bind fun p => (gg (p.2.getD j .none) p.1).bind fun d => some (.nx, p.2.set j d) := by
  show ((f e).bind fun p => (gg (p.2.getD j .none) p.1).map fun d => (.nx, p.2.set j d) : Option (Out × En)) = _
  congr 1; funext p; cases gg (p.2.getD j .none) p.1 <;> rfl
@[simp] theorem rsTg : sTg f gf e = (f e).bind fun p => (gf p.1 p.2).bind fun e' => some (.nx, e') := by
  show ((f e).bind fun p => (gf p.1 p.2).map fun e' => (.nx, e') : Option (Out × En)) = _
  congr 1; funext p; cases gf p.1 p.2 <;> rfl
@[simp] theorem rsPar {i : Nat} : sPar i j fr e = (fr e).bind fun p => two p.1 fun x y => some (.nx, (p.2.set i x).set j y) := rfl
@[simp] theorem rsPar3 {i l : Nat} : sPar3 i j l fr e = (fr e).bind fun p => three p.1 fun x y z => some (.nx, ((p.2.set i x).set j y).set l z) := rfl
@[simp] theorem rsFor {it : Lf} : sFor it gf sf e = (it e).bind fun p => forL gf sf p.1 p.2 := rfl
@[simp] theorem rsWh {n : Nat} : sWh n fb sf e = whL fb sf n e := rfl
@[simp] theorem riFg {js : List Nat} {lf : Lf} : iFg js lf e = (lf e).bind fun p => some (p.1, fgE js p.2) := rfl
@[simp] theorem rsPre {js : List Nat} : sPre js sf e = sf (fgE js e) := rfl
@[simp] theorem rsPost {js jr : List Nat} : sPost js jr sf e = (sf e).bind fun p => some (p.1, outE js jr p.1 p.2) := rfl
@[simp] theorem reLc {it : Lf} {vs : List Nat} : eLc it vs gf fb f e = (it e).bind fun p => (lcL vs gf fb f p.1 p.2).bind fun q => some (.list q.1, restE p.2 q.2 vs) := rfl
@[simp] theorem rbYes : bYes e = some (true, e) := rfl
@[simp] theorem rlcB {vs : List Nat} : lcB vs gf fb f d e = (gf d e).bind fun e1 => (fb e1).bind fun p => if p.1 = true then (f p.2).bind fun q => some (some q.1, restE e q.2 vs) else some (none, restE e p.2 vs) := rfl
@[simp] theorem riSeq : iSeq f e = (f e).bind fun p => (seqD p.1).bind fun ds => some (ds, p.2) := rfl
@[simp] theorem riEn : iEn f e = (f e).bind fun p => (gEn p.1).bind fun ds => some (ds, p.2) := by
  show ((f e).bind fun p => (seqD p.1).bind fun ds => some (enumD 0 ds, p.2)) = _
  congr 1; funext p; unfold gEn; cases seqD p.1 <;> rfl
@[simp] theorem riZp : iZp f g e = (f e).bind fun p => (g p.2).bind fun q => (zipS p.1 q.1).bind fun ds => some (ds, q.2) := rfl
@[simp] theorem riR1 : iR1 f e = (f e).bind fun p => (rng1 p.1).bind fun ds => some (ds, p.2) := rfl
@[simp] theorem riR2 : iR2 f g e = (f e).bind fun p => (g p.2).bind fun q => (rng2 p.1 q.1).bind fun ds => some (ds, q.2) := rfl
@[simp] theorem rLsR {lf : Lf} : eLsR lf e = (lf e).bind fun p => some (.list p.1, p.2) := by
  show (lf e).map _ = _
  cases lf e <;> rfl
@[simp] theorem rTpR {lf : Lf} : eTpR lf e = (lf e).bind fun p => some (.tuple p.1, p.2) := by
  show (lf e).map _ = _
  cases lf e <;> rfl
@[simp] theorem rgNm : gNm j d e = some (e.set j d) := rfl
@[simp] theorem rgTp2 : gTp 2 (gsCons gf (gsCons gf2 gsNil)) d e = (un2 d).bind fun p => (gf p.1 e).bind fun e => gf2 p.2 e := by
  unfold gTp un2
  cases d with
  | tuple ds =>
    match ds with
    | [] => rfl
    | [a] => rfl
    | [a, b] =>
      show ((gf a e).bind fun e' => (gf2 b e').bind fun e'' => some e'') = _
      simp only [Option.bind_some]
      congr 1; funext e'; cases gf2 b e' <;> rfl
    | a :: b :: c :: r => show (if (a :: b :: c :: r).length = 2 then _ else _) = _; rw [if_neg (by simp)]; rfl
  | _ => rfl
@[simp] theorem rgTp3 : gTp 3 (gsCons gf (gsCons gf2 (gsCons gf3 gsNil))) d e = (un3 d).bind fun p => (gf p.1 e).bind fun e => (gf2 p.2.1 e).bind fun e => gf3 p.2.2 e := by
  unfold gTp un3
  cases d with
  | tuple ds =>
    match ds with
    | [] => rfl
    | [a] => rfl
    | [a, b] => rfl
    | [a, b, c] =>
      show ((gf a e).bind fun e' => (gf2 b e').bind fun e'' => (gf3 c e'').bind fun e''' => some e''') = _
      simp only [Option.bind_some]
      congr 1; funext e'; congr 1; funext e''; cases gf3 c e'' <;> rfl
    | a :: b :: c :: x :: r => show (if (a :: b :: c :: x :: r).length = 3 then _ else _) = _; rw [if_neg (by simp)]; rfl
  | _ => rfl
@[simp] theorem rgTp4 : gTp 4 (gsCons gf (gsCons gf2 (gsCons gf3 (gsCons gf4 gsNil)))) d e = (un4 d).bind fun p => (gf p.1 e).bind fun e => (gf2 p.2.1 e).bind fun e => (gf3 p.2.2.1 e).bind fun e => gf4 p.2.2.2 e := by
  unfold gTp un4
  cases d with
  | tuple ds =>
    match ds with
    | [] => rfl
    | [a] => rfl
    | [a, b] => rfl
    | [a, b, c] => rfl
    | [a, b, c, z] =>
      show ((gf a e).bind fun e' => (gf2 b e').bind fun e'' => (gf3 c e'').bind fun e''' => (gf4 z e''').bind fun e4 => some e4) = _
      simp only [Option.bind_some]
      congr 1; funext e'; congr 1; funext e''; congr 1; funext e3; cases gf4 z e3 <;> rfl
    | a :: b :: c :: x :: y :: r => show (if (a :: b :: c :: x :: y :: r).length = 4 then _ else _) = _; rw [if_neg (by simp)]; rfl
  | _ => rfl
@[simp] theorem rrest0 : restE e e' [] = e' := rfl
@[simp] theorem rrest1 {v : Nat} {vs : List Nat} : restE e e' (v :: vs) = restE e (e'.set v (e.getD v .none)) vs := rfl
@[simp] theorem rgd0 {x : PyData} : List.getD (x :: e) 0 d = x := rfl
@[simp] theorem rgdS {x : PyData} : List.getD (x :: e) (j + 1) d = List.getD e j d := rfl
@[simp] theorem rRun {f : Sf} {ptys : List Ty} {r : Nat} {ds : List PyData} : runF f ptys r ds = (f (ds ++ List.replicate r .none)).bind fun p => retR ptys ds p := by
  show ((f (ds ++ List.replicate r .none)).bind fun p => match p.1 with
    | .rt d => some (d, fins ptys ds p.2)
    | .nx => some (.none, fins ptys ds p.2)
    | _ => none : Option (PyData × List PyData)) = _
  congr 1
@[simp] theorem rep0 {x : PyData} : List.replicate 0 x = [] := rfl
@[simp] theorem repS {x : PyData} {n : Nat} : List.replicate (n + 1) x = x :: List.replicate n x := rfl
@[simp] theorem finS {t : Ty} {ts : List Ty} {d e : PyData} {ds es : List PyData} : fins (t :: ts) (d :: ds) (e :: es) = (if stb t = true then d else e) :: fins ts ds es := rfl
@[simp] theorem finN {ds es : List PyData} : fins [] ds es = [] := rfl
@[simp] theorem stbs : stb .s = true := rfl
@[simp] theorem stbq : stb .q = true := rfl
@[simp] theorem stbl {t : Ty} : stb (.l t) = false := rfl
@[simp] theorem stbr {t : List Ty} : stb (.r t) = false := rfl
end
end DL
namespace DL
open PySem L2 PySem.Spec
section
variable {e : En} {f g h : Ef} {j : Nat}
@[simp] theorem reDGet : eDGet j f e = (f e).bind fun p => (gDGet (p.2.getD j .none) p.1).bind fun d => some (d, p.2) := rfl
@[simp] theorem reDOp {gg : PyData → PyData → Option PyData} : eDOp gg j f e = (f e).bind fun p => (gg (p.2.getD j .none) p.1).bind fun d => some (d, p.2) := rfl
@[simp] theorem reDGet2 : eDGet2 j f h e = (f e).bind fun p => (h p.2).bind fun q => (gDGet2 (q.2.getD j .none) p.1 q.1).bind fun d => some (d, q.2) := rfl
@[simp] theorem rsDPutD : sDPutD j g f e = (f e).bind fun p => (g p.2).bind fun q => (gDPut (q.2.getD j .none) q.1 p.1).bind fun d => some (.nx, q.2.set j d) := rfl
@[simp] theorem rgItm {gi : Gq} {d : PyData} : gItm j gi d e = (gi e).bind fun i => (gSet (e.getD j .none) i d).bind fun l => some (e.set j l) := by
  show ((gi e).bind fun i => match e.getD j .none, i with
    | .list ds, .int k => (ixN ds.length k).map fun z => e.set j (.list (ds.set z d))
    | _, _ => none) = _
  congr 1; funext i
  unfold gSet
  cases e.getD j .none <;> cases i <;> first | rfl | skip
  rename_i ds k
  show (ixN ds.length k).map _ = ((ixN ds.length k).bind _).bind _
  cases ixN ds.length k <;> rfl
end
end DL
namespace DL
open PySem L2 PySem.Spec
inductive Res where
  | ok (d : PyData)
  | ex (c : Str) (fs : List (Str × PyData))
abbrev DFnX := List PyData → Option Res
def ExAt (K : PySem.W.Frag) (mg : Str → Option Value) (G : Hp) (c : Str) (fs : List (Str × PyData)) (cls : Value) (dx : Option Addr) : Prop :=
  ∃ C fv, mg c = some (.ref C) ∧ cls = .ref C ∧ (∀ x, dx = some x → G x = some (.xd fv)) ∧ (dx = none → fs = []) ∧ fv.map (·.1) = fs.map (·.1) ∧ DqA K G (fv.map (·.2)) (fs.map (·.2))
theorem ExAt.mono {K : PySem.W.Frag} {mg : Str → Option Value} {G G' : Hp} {c : Str} {fs : List (Str × PyData)} {cls : Value} {dx : Option Addr} (e : Same G G') (h : ExAt K mg G c fs cls dx) : ExAt K mg G' c fs cls dx := by
  obtain ⟨C, fv, h1, h2, h3, h4, h5, h6⟩ := h
  exact ⟨C, fv, h1, h2, fun x hx => e _ _ (h3 x hx), h4, h5, h6.mono e⟩
def spX (K : PySem.W.Frag) (mg : Str → Option Value) (ptys : List Ty) (rty : Ty) (Fn : DFnX) : Sp := fun vs H Q E =>
  ∃ (ds : List PyData) (r : Res) (G : Hp), Fn ds = some r ∧ OwnA K G H ptys ds (vs.map some) [] ∧ Same G H ∧ match r with
    | .ok d => ∀ (G' H' : Hp) (v : V) (Av : List Addr), Step [] G H Av G' H' → Own K G' H' rty d (some v) Av → Av.Nodup → Same G' H' → Q v H'
    | .ex c fs => ∀ (G' H' : Hp) (cls : Value) (dx : Option Addr), Step [] G H [] G' H' → ExAt K mg G' c fs cls dx → Same G' H' → E cls dx H'
structure FnX (P : Program) (w : World) (K : PySem.W.Frag) (mg : Str → Option Value) (base : Heap) (k : Nat) (f : Addr) (fd : FuncData) (ps : List Str) (sp : Sp) : Prop where
  len : ∀ vs H Q E, sp vs H Q E → vs.length = ps.length
  run : ∀ (A : Around) (outer : List Env) (s : Shared) (H : Hp) (args : Args) (us : List Value) (vs : List V) (Q : VK) (E : XK), Room k A → A.guards = some [] → Env0 P w K mg base A outer s H → BindsTo s fd args (ps.zip us) → Vals vs us → sp vs H Q E →
    codeAny (model P w) A (.call (.ref f) args) (CR (L2N.CX P w) outer P w H s Q E) s
structure CalX (P : Program) (w : World) (K : PySem.W.Frag) (mg : Str → Option Value) (base : Heap) (k : Nat) (x : Str) (ptys : List Ty) (rty : Ty) (Fn : DFnX) : Prop where
  ex : ∃ (f : Addr) (fd : FuncData) (ps : List Str), FnX P w K mg base k f fd ps (spX K mg ptys rty Fn) ∧ mg x = some (.ref f) ∧ PySem.W.keepIn K (.ref f) = true ∧ Binds K fd ps []
theorem fnX_of {P : Program} {w : World} {K : PySem.W.Frag} {mg : Str → Option Value} {base : Heap} {x qual : Str} {st : Stmt} {f : Addr} {fd : FuncData} {N ps : List Str} {k : Nat} {sp : Sp} (F : L2.Fun K x qual st f fd) (S : FnScope N ps (defScope st)) (len : ∀ vs H Q E, sp vs H Q E → vs.length = ps.length)
    (hbody : ∀ (cv : Value) (A : Around) (outer : List Env) (s : Shared) (H : Hp) (vs : List V) (Q : VK) (E : XK), Room k (A.deeper (PyProof.Rows.envOfC qual (defScope st) s.heap.objs.size f cv)) → (A.deeper (PyProof.Rows.envOfC qual (defScope st) s.heap.objs.size f cv)).guards = some [] → sp vs H Q E →
      ∃ t, PSs (cxOf (L2N.CX P w) P w K mg base N qual (defScope st) f cv A outer s H E) (defBody st) t ∧ t { nx := fun _ H' => Q .non H', rt := Q } (start N vs) H) : FnX P w K mg base (k + 1) f fd ps sp := by
  obtain ⟨oc, od, kV, doc, pm, an, cv, ct, osl, rfl, lk, hcd⟩ := F.ex
  refine ⟨len, fun A outer s H args us vs Q E room gd e0 bind rel wish => ?_⟩
  have KX : K.In s.heap := e0.mod.kin.keeps fun b o e => (e0.bs b o e).1
  obtain ⟨t, bt, bq⟩ := hbody cv A outer s H vs Q E (room.deeper _) gd wish
  have kinds : ∀ y ∈ ps.zip us, (defScope st).names.lookup y.1 = some .local ∨ ((defScope st).names.lookup y.1 = some .cell ∧ ((cellsFrom (s.heap.objs.size + 1) (defScope st).names []).lookup y.1).isSome = true) := by
    rintro ⟨nm, val⟩ hy
    have hp := S.par nm (List.of_mem_zip hy).1
    exact hp.imp id fun c => ⟨c, PySem.W.cellsFrom_some _ _ _ (.inl c)⟩
  refine codeAny_call_function room.depth (KX _ _ lk) rfl S.co S.gen rfl (PySem.W.codeRec_of KX hcd) (bind _ _ _ _ ?_)
  refine wpAny_newFunctionEnv_cells S.kind kinds fun env he s1 ic => ?_
  subst he
  have lim := e0.mod.nolimit.keeps fun b o e => (e0.bs b o e).1
  refine ⟨Heap.NoLimit.keeps lim ic.toInCall.keep, codeAny_func ?_⟩
  have I0 := inv_start (CX := L2N.CX P w) (E := E) S room.hd e0 (len _ _ _ _ wish) rel ic
  refine wpAny_mono (bt.run [] s1 _ H _ I0 bq) ?_ fun e s' z => z
  intro fl s' z
  cases fl with
  | ret u => obtain ⟨v, σ', H', J, rv, q⟩ := z; exact ⟨v, H', J.os, J.bare, J.base, J.hok, rv, q⟩
  | next => obtain ⟨σ', H', J, q⟩ := z; exact ⟨V.non, H', J.os, J.bare, J.base, J.hok, rfl, q⟩
  | brk => obtain ⟨_, _, _, q⟩ := z; exact q.elim
  | cont => obtain ⟨_, _, _, q⟩ := z; exact q.elim
theorem run_fnX {X : Cx} {W : WX} {k : Nat} {fa : Addr} {fd : FuncData} {ps : List Str} {sp : Sp} {pins : List (Addr × Obj)} {σ : St} {H : Hp} {s : Shared} {Q : VK} {us : List Value} {vs : List V} (Fn : FnX X.prog X.w X.K X.mg X.base k fa fd ps sp) (tk : L2N.Takes X W) (hr : Room k X.A) (hg : X.A.guards = some []) (hb : Binds X.K fd ps [])
    (I : L2.Inv X pins σ H s) (r : Vals vs us) (h : sp vs H Q (WE W σ)) : wpAny (model X.prog X.w) X.A (call (.ref fa) us) (EP X pins σ Q) X.xe s := by
  have hl : (us ++ []).length = ps.length := by rw [List.append_nil, ← r.length]; exact Fn.len _ _ _ _ h
  have hb' := hb s us I.kIn hl
  rw [List.append_nil] at hb'
  refine wpAny_call (codeAny_mono (Fn.run X.A X.stack s H ⟨us, []⟩ us vs Q (WE W σ) hr hg I.env0 hb' r h) ?_)
  intro z s' hq
  match z, hq with
  | .ok (.ret u), hq => exact I.after hq
  | .error e, hq => exact L2N.passAt tk σ pins H s e s' I hq
  | .ok .next, hq => exact False.elim hq
  | .ok .brk, hq => exact False.elim hq
  | .ok .cont, hq => exact False.elim hq
abbrev EfX := En → Option (Res × En)
def DEX (K : PySem.W.Frag) (mg : Str → Option Value) (m : List Ty) (te : TE) (ty : Ty) (f : EfX) (m' : List Ty) (W : WX) : Prop :=
  ∀ {G H : Hp} {σ : St} {e : En} {A : List Addr} {r : Res} {e' : En} {Q : VK}, Stt K m G H σ e A → f e = some (r, e') →
    (match r with
    | .ok d => ∀ (G' H' : Hp) (v : V) (Av A' : List Addr), Step A G H (Av ++ A') G' H' → Stt K m' G' H' σ e' A' → Own K G' H' ty d (some v) Av → (Av ++ A').Nodup → Q v H'
    | .ex c fs => ∀ (G' H' : Hp) (A' : List Addr) (cls : Value) (dx : Option Addr), Step A G H A' G' H' → Stt K m' G' H' σ e' A' → ExAt K mg G' c fs cls dx → W cls dx σ H') → te σ H Q
structure PDX {ι : Type} (Xf : ι → Cx) (W : WX) (K : PySem.W.Frag) (mg : Str → Option Value) (m : List Ty) (e : Expr) (ty : Ty) (f : EfX) (m' : List Ty) : Prop where
  ex : ∃ te : TE, (∀ i, PE (Xf i) e te) ∧ DEX K mg m te ty f m' W
class FamT {ι : Type} (Xf : ι → Cx) (W : outParam WX) : Prop where
  tk : ∀ i, L2N.Takes (Xf i) W
def xCall (Fn : DFnX) (r : Lf) : EfX := fun e => (r e).bind fun p => (Fn p.1).bind fun q => some (q, p.2)
section
variable {ι : Type} {Xf : ι → Cx} {W : WX} {P : Program} {w : World} {K : PySem.W.Frag} {mg : Str → Option Value} {base : Heap} {n : Nat} [F : Fam Xf P w K mg base n] [FG : FamG Xf]
variable {m m1 m2 m3 : List Ty} {pos p p2 : Pos} {a b c : Expr} {es : List Expr} {f g h : Ef} {gx : EfX} {fr : Lf} {ty : Ty} {tys : List Ty} {L : List (Option Nat)}
include F FG in
theorem pe_callX [FT : FamT Xf W] {k : Nat} {x : Str} {rty : Ty} {Fn : DFnX} (c : CalX P w K mg base k x tys rty Fn) (hk : k ≤ n) (i : ι) {t : TA} (hg : Gl (Xf i) x) (ha : PA (Xf i) (a :: es) t)
    (hdb : (x == ("__debug__" : Str)) = false := by decide) (he : starEach (a :: es) (Xf i).env = (false, eval a (Xf i).env) :: starEach es (Xf i).env := by rfl) (hpl : (backTo pos (starEach es (Xf i).env)).any (·.1) = false := by rfl) :
    PE (Xf i) (.Call (.Name x p) (a :: es) [] pos) (tCallS (spX K mg tys rty Fn) (WE W) t) := by
  obtain ⟨fa, fd, ps, FN, hm, kp, b⟩ := c.ex
  have e1 := F.prog i
  have e2 := F.w_ i
  have e3 := F.kk i
  have e4 := F.mg_ i
  have e5 := F.base_ i
  refine ⟨fun pins s σ H Q I h => ?_⟩
  refine wpAny_Call_Name_kw (ld_glob I hg (by rw [e4]; exact hm) ?_ hdb)
  refine PySem.W.callWith_K (h₀ := (Xf i).base) I.ok.mod.kin (by rw [e3]; exact kp) (thn (ha.run pos pins s σ H _ I h) fun us s1 ⟨vs, H1, I1, r1, q1⟩ => ⟨I1.kIn, ?_⟩) he hpl
  subst e1 e2 e3 e4 e5
  exact run_fnX FN (FT.tk i) ((rmOf F FG i).mono hk) (FG.gd i) b I1 r1 q1
theorem stab_nil {K : PySem.W.Frag} {G H : Hp} : ∀ {ts : List Ty} {ds : List PyData} {vs : List (Option V)} {A : List Addr}, OwnA K G H ts ds vs A → (∀ t ∈ ts, stb t = true) → A = []
  | [], _, _, _, o, _ => by cases o; rfl
  | t :: ts, _, _, _, o, h => by
    cases o with
    | cons h1 h2 => rw [own_stb h1 (h t (List.mem_cons_self ..)), stab_nil h2 fun x hx => h x (List.mem_cons_of_mem _ hx)]; rfl
include F FG in
theorem px_call [FT : FamT Xf W] {k : Nat} {x : Str} {rty : Ty} {Fn : DFnX} (c : CalX P w K mg base k x tys rty Fn) (ha : PAL Xf K m (a :: es) tys L fr m1) (hst : ∀ t ∈ tys, stb t = true := by decide) (hk : k ≤ n := by decide) (hg : ∀ i, Gl (Xf i) x := by intro _; rfl)
    (hdb : (x == ("__debug__" : Str)) = false := by decide) (he : ∀ i, starEach (a :: es) (Xf i).env = (false, eval a (Xf i).env) :: starEach es (Xf i).env := by intro _; rfl) (hpl : ∀ i, (backTo pos (starEach es (Xf i).env)).any (·.1) = false := by intro _; rfl) :
    PDX Xf W K mg m (.Call (.Name x p) (a :: es) [] pos) rty (xCall Fn fr) m1 := by
  obtain ⟨ta, pa, da⟩ := ha.ex
  refine ⟨_, fun i => pe_callX c hk i (hg i) (pa i) hdb (he i) (hpl i), fun {G H σ e A r e' Q} st hf k' => ?_⟩
  unfold xCall at hf
  obtain ⟨⟨ds, e1⟩, hf1, hf⟩ := oBs hf
  obtain ⟨r1, hf2, hf⟩ := oBs hf
  cases hf
  refine da st hf1 fun G1 H1 vs A1 B1 s1 st1 o1 nd1 _ => ?_
  have z1 := stab_nil o1 hst
  subst z1
  rw [List.nil_append] at s1 nd1
  refine ⟨ds, r, G1, hf2, o1, st1.sub, ?_⟩
  have s1' : Step A G H (B1 ++ []) G1 H1 := by rw [List.append_nil]; exact s1
  have nd1' : (B1 ++ []).Nodup := by rw [List.append_nil]; exact nd1
  cases r with
  | ok d =>
    intro G2 H2 v Av s2 ov ndv sub2
    obtain ⟨s3, nd3, hg', hh'⟩ := s1'.seq (ownA_at st1.own) nd1' s2 ndv
    have st2 : Stt K m1 G2 H2 σ e1 B1 := ⟨ownA_fr st1.own s2.sg hg' hh', st1.nd, sub2⟩
    have n3 := List.nodup_append.mp nd3
    refine k' G2 H2 v Av B1 (s3.less fun a ha => ?_) st2 ov (List.nodup_append.mpr ⟨n3.2.1, n3.1, fun a ha b hb z => n3.2.2 b hb a ha z.symm⟩)
    rcases List.mem_append.mp ha with z | z
    · exact List.mem_append_right _ z
    · exact List.mem_append_left _ z
  | ex c fs =>
    intro G2 H2 cls dx s2 ex sub2
    obtain ⟨s3, nd3, hg', hh'⟩ := s1'.seq (ownA_at st1.own) nd1' s2 List.nodup_nil
    have st2 : Stt K m1 G2 H2 σ e1 B1 := ⟨ownA_fr st1.own s2.sg hg' hh', st1.nd, sub2⟩
    exact k' G2 H2 B1 cls dx (s3.less fun a ha => List.mem_append_left _ ha) st2 ex
end
inductive OutX where
  | o (x : Out)
  | ex (c : Str) (fs : List (Str × PyData))
abbrev SfX := En → Option (OutX × En)
def FinX (K : PySem.W.Frag) (mg : Str → Option Value) (M : Mk) (mx : List Ty) (W : WX) (mn : List Ty) (A : List Addr) (G H : Hp) (σ : St) (D : Ends) (e' : En) : OutX → Prop
  | .o x => Fin K M mn A G H σ D e' x
  | .ex c fs => ∀ (G' H' : Hp) (σ' : St) (A' : List Addr) (cls : Value) (dx : Option Addr), Step A G H A' G' H' → Stt K mx G' H' σ' e' A' → Pin M.po σ σ' → ExAt K mg G' c fs cls dx → W cls dx σ' H'
def DSX (K : PySem.W.Frag) (mg : Str → Option Value) (M : Mk) (mx : List Ty) (W : WX) (m : List Ty) (t : TS) (f : SfX) (mn : List Ty) : Prop :=
  ∀ {G H : Hp} {σ : St} {e : En} {A : List Addr} {o : OutX} {e' : En} {D : Ends}, Stt K m G H σ e A → f e = some (o, e') → FinX K mg M mx W mn A G H σ D e' o → t D σ H
structure PSX {ι : Type} (Xf : ι → Cx) (W : WX) (K : PySem.W.Frag) (mg : Str → Option Value) (M : Mk) (mx : List Ty) (m : List Ty) (st : Stmt) (f : SfX) (mn : List Ty) : Prop where
  ex : ∃ t : TS, (∀ i, PS (Xf i) st t) ∧ DSX K mg M mx W m t f mn
structure PSXs {ι : Type} (Xf : ι → Cx) (W : WX) (K : PySem.W.Frag) (mg : Str → Option Value) (M : Mk) (mx : List Ty) (m : List Ty) (st : List Stmt) (f : SfX) (mn : List Ty) : Prop where
  ex : ∃ t : TS, (∀ i, PSs (Xf i) st t) ∧ DSX K mg M mx W m t f mn
def xO (f : Sf) : SfX := fun e => (f e).map fun p => (.o p.1, p.2)
def xSeqX (f g : SfX) : SfX := fun e => (f e).bind fun p => match p.1 with
  | .o .nx => g p.2
  | o => some (o, p.2)
def xIfX (c : Bf) (f g : SfX) : SfX := fun e => (c e).bind fun p => if p.1 = true then f p.2 else g p.2
def xAsgX (j : Nat) (f : EfX) : SfX := fun e => (f e).map fun p => match p.1 with
  | .ok d => (.o .nx, p.2.set j d)
  | .ex c fs => (.ex c fs, p.2)
def xDropX (f : EfX) : SfX := fun e => (f e).map fun p => match p.1 with
  | .ok _ => (.o .nx, p.2)
  | .ex c fs => (.ex c fs, p.2)
def xRetX (f : EfX) : SfX := fun e => (f e).map fun p => match p.1 with
  | .ok d => (.o (.rt d), p.2)
  | .ex c fs => (.ex c fs, p.2)
def xRaise (c : Str) (flds : List Str) (f : Lf) : SfX := fun e => (f e).bind fun p => if p.1.length = flds.length then some (.ex c (flds.zip p.1).reverse, p.2) else none
section
variable {K : PySem.W.Frag} {mg : Str → Option Value} {M : Mk} {G H G1 H1 : Hp} {m m1 m2 mn mx : List Ty} {W : WX} {σ σ1 : St} {e : En} {A A1 : List Addr} {D : Ends} {e' : En} {t u : TS} {ef : Ef} {bf : Bf} {lf : Lf}
theorem FinX.back {o : OutX} (s : Step A G H A1 G1 H1) (p : Pin M.po σ σ1) (h : FinX K mg M mx W mn A G H σ D e' o) : FinX K mg M mx W mn A1 G1 H1 σ1 D e' o := by
  cases o with
  | o x => exact Fin.back s p h
  | ex c fs => exact fun G' H' σ' A' cls dx s' st' p' ex => h G' H' σ' A' cls dx (s.seq0 s') st' (p.trans p') ex
theorem DSX.of {f : Sf} (h : DS K M m t f mn) : DSX K mg M mx W m t (xO f) mn := by
  intro G H σ e A o e' D st hf k
  obtain ⟨⟨x, e1⟩, hf1, hf⟩ := Option.map_eq_some_iff.mp hf
  cases hf
  exact h st hf1 k
theorem DSX.seq {f g : SfX} (h1 : DSX K mg M mx W m t f m1) (h2 : DSX K mg M mx W m1 u g mn) : DSX K mg M mx W m (tSeq t u) (xSeqX f g) mn := by
  intro G H σ e A o e' D st hf k
  obtain ⟨⟨o1, e1⟩, hf1, hf⟩ := oBs hf
  refine h1 st hf1 ?_
  match o1, hf with
  | .o .nx, hf => exact fun G' H' σ' A' s' st' p' => h2 st' hf (k.back s' p')
  | .o .bk, hf => cases hf; exact k
  | .o .ct, hf => cases hf; exact k
  | .o (.rt d), hf => cases hf; exact k
  | .ex c fs, hf => cases hf; exact k
theorem DSX.ite {f g : SfX} {tc : TT} (hc : DT K m tc bf m1) (h1 : DSX K mg M mx W m1 t f mn) (h2 : DSX K mg M mx W m1 u g mn) : DSX K mg M mx W m (tIfS tc t u) (xIfX bf f g) mn := by
  intro G H σ e A o e' D st hf k
  obtain ⟨⟨b, e1⟩, hf1, hf⟩ := oBs hf
  refine hc st hf1 fun G1 H1 A1 s1 st1 => ?_
  cases b with
  | true => exact h1 st1 hf (k.back s1 Pin.refl)
  | false => exact h2 st1 hf (k.back s1 Pin.refl)
theorem DSX.le {f : SfX} (h : DSX K mg M mx W m t f m1) (l : LeM m1 mn) : DSX K mg M mx W m t f mn := by
  intro G H σ e A o e' D st hf k
  refine h st hf ?_
  match o, k with
  | .o .nx, k =>
    intro G' H' σ' A' s' st' p'
    obtain ⟨G2, A2, s2, st2⟩ := stt_le l st'
    exact k G2 H' σ' A2 (s'.seq0 s2) st2 p'
  | .o .bk, k => exact k
  | .o .ct, k => exact k
  | .o (.rt d), k => exact k
  | .ex c fs, k => exact k
theorem DSX.asg {te : TE} {ty : Ty} {j : Nat} {fx : EfX} (he : DEX K mg m te ty fx m1 W) (hj : j < m1.length) (hp : j ∉ M.po) : DSX K mg M m1 W m (tAsg te (gName j)) (xAsgX j fx) (m1.set j ty) := by
  intro G H σ e A o e' D st hf k
  obtain ⟨⟨r, e1⟩, hf1, hf⟩ := Option.map_eq_some_iff.mp hf
  refine he st hf1 ?_
  match r, hf with
  | .ok d, hf =>
    cases hf
    exact fun G1 H1 v Av A1 s1 st1 o1 nd1 => by
      obtain ⟨A2, st2, hA⟩ := stt_set st1 hj o1 nd1
      exact k G1 H1 _ A2 (s1.less hA) st2 (Pin.set hp)
  | .ex c fs, hf =>
    cases hf
    exact fun G1 H1 A1 cls dx s1 st1 ex => k G1 H1 σ A1 cls dx s1 st1 Pin.refl ex
theorem DSX.drop {te : TE} {ty : Ty} {fx : EfX} (he : DEX K mg m te ty fx m1 W) : DSX K mg M m1 W m (tDrop te) (xDropX fx) m1 := by
  intro G H σ e A o e' D st hf k
  obtain ⟨⟨r, e1⟩, hf1, hf⟩ := Option.map_eq_some_iff.mp hf
  refine he st hf1 ?_
  match r, hf with
  | .ok d, hf =>
    cases hf
    exact fun G1 H1 v Av A1 s1 st1 o1 nd1 => k G1 H1 σ A1 (s1.less fun a h => List.mem_append_right _ h) st1 Pin.refl
  | .ex c fs, hf =>
    cases hf
    exact fun G1 H1 A1 cls dx s1 st1 ex => k G1 H1 σ A1 cls dx s1 st1 Pin.refl ex
theorem DSX.ret {te : TE} {fx : EfX} (he : DEX K mg m te M.ty fx m1 W) (l : LeM m1 M.r) (lx : LeM m1 mx) : DSX K mg M mx W m (tRet te) (xRetX fx) mn := by
  intro G H σ e A o e' D st hf k
  obtain ⟨⟨r, e1⟩, hf1, hf⟩ := Option.map_eq_some_iff.mp hf
  refine he st hf1 ?_
  match r, hf with
  | .ok d, hf =>
    cases hf
    exact fun G1 H1 v Av A1 s1 st1 o1 nd1 => by
      obtain ⟨G2, A2, s2, st2, o2, nd2⟩ := le_aside l s1 st1 o1 nd1
      exact k G2 H1 σ v Av A2 s2 st2 o2 nd2 Pin.refl
  | .ex c fs, hf =>
    cases hf
    exact fun G1 H1 A1 cls dx s1 st1 ex => by
      obtain ⟨G2, A2, s2, st2⟩ := stt_le lx st1
      exact k G2 H1 σ A2 cls dx (s1.seq0 s2) st2 Pin.refl (ex.mono s2.sg)
end
section
variable {ι : Type} {Xf : ι → Cx} {W : WX} {P : Program} {w : World} {K : PySem.W.Frag} {mg : Str → Option Value} {base : Heap} {n : Nat} [F : Fam Xf P w K mg base n]
variable {M : Mk} {m m1 m2 mn mx : List Ty} {pos p p2 spos : Pos} {c v : Expr} {st : Stmt} {rest body orelse : List Stmt} {f g : SfX} {sf : Sf} {bf : Bf} {ef : Ef} {fx : EfX} {ty : Ty}
theorem sxs_of (h : PSsd Xf K M m rest sf mn) : PSXs Xf W K mg M mx m rest (xO sf) mn := by
  obtain ⟨t, p, d⟩ := h.ex
  exact ⟨t, p, DSX.of d⟩
theorem sx_of (h : PSd Xf K M m st sf mn) : PSX Xf W K mg M mx m st (xO sf) mn := by
  obtain ⟨t, p, d⟩ := h.ex
  exact ⟨t, p, DSX.of d⟩
theorem sxs_cons (h1 : PSX Xf W K mg M mx m st f m1) (h2 : PSXs Xf W K mg M mx m1 rest g mn) : PSXs Xf W K mg M mx m (st :: rest) (xSeqX f g) mn := by
  obtain ⟨t, p, d⟩ := h1.ex
  obtain ⟨u, q, d2⟩ := h2.ex
  exact ⟨_, fun i => pss_cons (p i) (q i), DSX.seq d d2⟩
theorem sxs_one (h1 : PSX Xf W K mg M mx m st f mn) : PSXs Xf W K mg M mx m [st] f mn := by
  obtain ⟨t, p, d⟩ := h1.ex
  exact ⟨_, fun i => pss_one (p i), d⟩
theorem sxs_le (h : PSXs Xf W K mg M mx m rest f m1) (l : LeM m1 mn) : PSXs Xf W K mg M mx m rest f mn := by
  obtain ⟨t, p, d⟩ := h.ex
  exact ⟨_, p, d.le l⟩
theorem sx_if (hc : PB Xf K m c bf m1) (ha : PSXs Xf W K mg M mx m1 body f mn) (hb : PSXs Xf W K mg M mx m1 orelse g mn) : PSX Xf W K mg M mx m (.If c body orelse pos) (xIfX bf f g) mn := by
  obtain ⟨t, p, d⟩ := hc.ex
  obtain ⟨t1, p1, d1⟩ := ha.ex
  obtain ⟨t2, p2, d2⟩ := hb.ex
  exact ⟨_, fun i => ps_if (p i) (p1 i) (p2 i), DSX.ite d d1 d2⟩
include F in
theorem sx_asg (j : Nat) {x : Str} {pos' : Pos} (he : PDX Xf W K mg m v ty fx m1) (hj : j < m1.length := by first | decide | rfl | simp) (hp : j ∉ M.po := by first | decide | rfl | simp) (hi : ∀ i, (Xf i).N[j]? = some x := by intro _; rfl) (hx : ∀ i, Loc (Xf i).env.scope x := by first | (intro _; exact Or.inl rfl) | (intro _; exact Or.inr rfl))
    (hs : ∀ i, swapsWith v (some (.Name x pos')) pos.line (Xf i).env = pure false := by intro _; rfl) (hf : ∀ i, (Xf i).fn x = true ∨ (Xf i).env.scope.names.lookup x = some .local := by first | (intro _; exact Or.inl rfl) | (intro _; exact Or.inr rfl)) :
    PSX Xf W K mg M m1 m (.Assign [.Name x pos'] v pos) (xAsgX j fx) (m1.set j ty) := by
  obtain ⟨t, p, d⟩ := he.ex
  exact ⟨_, fun i => ps_set (F.nd i) (hi i) (hx i) (p i) (hs i) (hf i), DSX.asg d hj hp⟩
end
abbrev newAt (h : Heap) : Addr := h.objs.size + 1
abbrev grownBy (h : Heap) (us : List Value) (C : Addr) : Heap := (h.push (PySem.W.kdv_tup us)).push (PySem.HandSPX.excO C h.objs.size)
theorem takes0N {X : Cx} : L2N.Takes X (fun _ _ _ _ => False) := fun _ _ z => by
  obtain ⟨_, _, _, _, _, _, _, _, _, _, _, _, _, _, _, _, q⟩ := z
  exact q.elim
section
variable {X : Cx} {o e : Expr} {es : List Expr} {to te : TE} {ta : TA} {f : Str} {p p' pos : Pos}
theorem mk_endN {pins : List (Addr × Obj)} {σ : St} {H1 H2 : Hp} {Q : XK} {hp hp2 h2 : Heap} {g1 g2 : Array GenState} {d1 d2 : Drawn} {t1 t2 : Nat} {o1 o2 : OsState} {a C d : Addr} {fl : List (Str × V)} (T : Raises X (.ref C)) (I1 : L2.Inv X pins σ H1 ⟨hp, g1, d1, t1, o1⟩)
    (ha : hp.objs.size ≤ a) (kp : ∀ b u, hp.get? b = some u → hp2.get? b = some u) (un : Un (frs X.stack) [] (upd H1 a (exo a C none)) H2 hp2 h2) (hok : HOk X.prog X.w H2 h2) (ho : o2 = o1) (hb : PyProof.Rows.AllBare g2)
    (ea : H2 a = some (exo a C (some d))) (ed : H2 d = some (exd d fl)) (dn : H1 d = none) (q : Q (.ref C) (some d) (upd (del H2 a) d (.xd fl))) : L2N.MkP X pins σ Q (.ref a) ⟨h2, g2, d2, t2, o2⟩ := by
  obtain ⟨t0, G1, J, kG, ge, hoe, na⟩ := mk_end0 (d2 := d2) (t2 := t2) I1 ha kp un hok ho hb ea ed dn
  refine ⟨a, _, _, ⟨G1, g2, d2, t2, o2⟩, _, .ref C, some d, rfl, J, kG, ge, hoe, ⟨rfl, rfl, fun vs hv => ?_⟩, rfl, rfl, na, rfl, hb, T, q⟩
  cases hv
  rfl
variable {pins : List (Addr × Obj)} {σ : St} {H : Hp} {s : Shared}
theorem pmk_oexN {CX : CXT} {x : Str} {C fI : Addr} {k : Nat} {fd : FuncData} {ps : List Str} {sp : Sp} (T : OexC X.K C) (iC : PySem.W.findIn X.K (.ref C) "__init__" = some (some (.ref fI))) (tI : PySem.W.typeIn X.K (.ref fI) = some (.type "function"))
    (FI : FnOk X.prog X.w X.K X.mg X.base CX k fI fd ps sp) (room : Room (k + 1) X.A) (bd : Binds X.K fd ps []) (nx : Passes CX X (fun _ _ _ => False)) (hg : Gl X x) (hm : X.mg x = some (.ref C)) (ha : PA X (e :: es) ta)
    (hdb : (x == ("__debug__" : Str)) = false := by decide) (he : starEach (e :: es) X.env = (false, eval e X.env) :: starEach es X.env := by rfl) (hpl : (backTo pos (starEach es X.env)).any (·.1) = false := by rfl) :
    L2N.PMk X (.Call (.Name x p) (e :: es) [] pos) (tMkO C sp [] ta) := by
  intro pins s σ H Q I h
  obtain ⟨nm, q, N, bs, bm, sn, sub, ab, col, dd, k0, k1, k2, k3, k5, hC, hbm⟩ := T.cls
  refine wpAny_Call_Name_kw (ld_glob I hg hm ?_ hdb)
  refine PySem.W.callWith_K (h₀ := X.base) I.ok.mod.kin T.kC (thn (ha.run pos pins s σ H _ I h) fun us s1 hu => ?_) he hpl
  obtain ⟨vs, H1, I1, r1, hz, wish⟩ := hu
  refine ⟨I1.kIn, ?_⟩
  show wpAny _ _ (call (.ref C) us) _ _ _
  obtain ⟨hh, gg, dr, tk, oo⟩ := s1
  have up1 : hh.objs.size ≤ newAt hh := Nat.le_succ _
  have w2 := wish (newAt hh) (I1.hok.fresh up1)
  have keep : ∀ b o, hh.get? b = some o → (grownBy hh us C).get? b = some o := fun b o z => Heap.get?_push_of_some _ (Heap.get?_push_of_some _ z)
  have at2 : (grownBy hh us C).get? (newAt hh) = some (PySem.HandSPX.excO C hh.objs.size) := by
    show ((hh.push (PySem.W.kdv_tup us)).push (PySem.HandSPX.excO C hh.objs.size)).get? (hh.objs.size + 1) = _
    heap_get
  have I2 : L2.Inv X pins σ (upd H1 (newAt hh) (exo (newAt hh) C none)) ⟨grownBy hh us C, gg, dr, tk, oo⟩ := I1.laid (t' := tk) keep up1 (exo_ok at2)
  have r2 : Vals (V.ref (newAt hh) :: (vs ++ [])) (Value.ref (newAt hh) :: (us ++ [])) := .cons rfl (r1.append .nil)
  have len2 : (Value.ref (newAt hh) :: us ++ []).length = ps.length := r2.length.symm.trans (FI.len _ _ _ _ w2)
  have small : us.length ≤ sizeLine := by rw [← Paired.length r1, sizeLine_eq]; omega
  refine wpAny_call (PySem.HandSPX.call_own PySem.F.excBase_ValueError (fun Y => PySem.HandSPX.refsVE_contains Y bm hbm) (I1.kIn _ _ hC) (PySem.W.looks_findIn I1.kIn iC) (fun self => PySem.W.bind_fn I1.kIn self tI) small ?_)
  refine codeAny_mono (FI.run _ X.stack _ _ ⟨Value.ref (newAt hh) :: us, []⟩ (Value.ref (newAt hh) :: (us ++ [])) _ _ (fun _ _ _ => False) (room.make C us []) (I2.env0.make C us []) (by have b2 := bd ⟨grownBy hh us C, gg, dr, tk, oo⟩ (Value.ref (newAt hh) :: us) I2.kIn len2; rw [List.cons_append] at b2; exact b2) r2 w2) fun r s' z => ?_
  match r, z with
  | .error er, z => exact nx pins σ _ _ er s' I2 z
  | .ok .next, z => exact z.elim
  | .ok .brk, z => exact z.elim
  | .ok .cont, z => exact z.elim
  | .ok (.ret u), z =>
    obtain ⟨v, H2, o2, bare, un, hok, rv, ev, d, fs, ea, ed, hd1, q2⟩ := z
    subst ev
    obtain ⟨h2, g2, d2, t2, os'⟩ := s'
    exact ⟨rv, mk_endN (raises_own T.exC T.tyC) I1 up1 keep un hok o2 bare ea ed hd1 q2⟩
end
def spIn (C : Addr) (flds : List Str) : Sp := fun vs H Q _ => ∃ (a : Addr) (ys : List V), vs = .ref a :: ys ∧ ys.length = flds.length ∧ H a = some (exo a C none) ∧
  ∀ (dx : Addr) (H' : Hp), H dx = none → dx ≠ a → H' a = some (exo a C (some dx)) → H' dx = some (exd dx (flds.zip ys).reverse) → (∀ b, b ≠ a → b ≠ dx → H' b = H b) → Q .non H'
structure ExcT (P : Program) (w : World) (K : PySem.W.Frag) (mg : Str → Option Value) (base : Heap) (k : Nat) (x : Str) (flds : List Str) : Prop where
  ex : ∃ (C fI : Addr) (fd : FuncData) (ps : List Str), OexC K C ∧ mg x = some (.ref C) ∧ PySem.W.findIn K (.ref C) "__init__" = some (some (.ref fI)) ∧ PySem.W.typeIn K (.ref fI) = some (.type "function") ∧ FnOk P w K mg base CX0 k fI fd ps (spIn C flds) ∧ Binds K fd ps []
theorem init1 {P : Program} {w : World} {K : PySem.W.Frag} {mg : Str → Option Value} {base : Heap} {C fI : Addr} {fd : FuncData} {qual f y : Str} {st : Stmt} {p1 p2 p3 p4 : Pos} (F : L2.Fun K "__init__" qual st fI fd) (S : FnScope ["self", y] ["self", y] (defScope st)) (hb : defBody st = [.Assign [.Attribute (.Name "self" p1) f p2] (.Name y p3) p4])
    (T : OexC K C) (hno : PySem.W.findIn K (.ref C) f = some none)
    (hv1 : Vis (defScope st) "self") (hv2 : Vis (defScope st) y) (hdy : (y == ("__debug__" : Str)) = false := by decide) (hcy : (y == ("__classdict__" : Str)) = false := by decide)
    (hs : ∀ env, swapsWith (.Name y p3) (some (.Attribute (.Name "self" p1) f p2)) p4.line env = pure false := by intro _; rfl) : FnOk P w K mg base CX0 1 fI fd ["self", y] (spIn C [f]) := by
  refine F.ok S (fun vs H Q E h => ?_) fun cdv A outer s H vs Q E hr h => ⟨tOst K f (tVar 0) (tVar 1), ?_, ?_⟩
  · obtain ⟨a, ys, rfl, hl, _⟩ := h
    simp [hl]
  · rw [hb]
    exact pss_one (ps_ost (pe_var rfl hv1) (pe_var rfl hv2 hdy hcy) (hs _))
  · obtain ⟨a, ys, rfl, hl, he, k⟩ := h
    match ys, hl with
    | [y1], _ =>
      refine ⟨y1, rfl, .ref a, rfl, a, C, rfl, T, hno, .inl ⟨he, fun dx hd ne => ?_⟩⟩
      exact k dx _ hd ne upd_same (by rw [upd_ne ne, upd_same]; rfl) fun b h1 h2 => by rw [upd_ne h1, upd_ne h2]
theorem dqA_rev {K : PySem.W.Frag} {G : Hp} {vs : List V} {ds : List PyData} (h : DqA K G vs ds) : DqA K G vs.reverse ds.reverse := by
  refine ⟨by simp [h.1], fun i v d hv hd => ?_⟩
  have hi : i < vs.length := by have := (List.getElem?_eq_some_iff.mp hv).1; simpa using this
  rw [List.getElem?_reverse hi] at hv
  rw [List.getElem?_reverse (by rw [← h.1]; exact hi), ← h.1] at hd
  exact h.2 _ _ _ hv hd
theorem zip_fst {α : Type} : ∀ {l : List Str} {r : List α}, l.length = r.length → (l.zip r).map (·.1) = l
  | [], [], _ => rfl
  | _ :: l, _ :: r, h => by simp [zip_fst (l := l) (r := r) (by simpa using h)]
theorem zip_snd {α : Type} : ∀ {l : List Str} {r : List α}, l.length = r.length → (l.zip r).map (·.2) = r
  | [], [], _ => rfl
  | _ :: l, _ :: r, h => by simp [zip_snd (l := l) (r := r) (by simpa using h)]
section
variable {ι : Type} {Xf : ι → Cx} {W : WX} {P : Program} {w : World} {K : PySem.W.Frag} {mg : Str → Option Value} {base : Heap} {n : Nat} [F : Fam Xf P w K mg base n]
variable {M : Mk} {m m1 m2 mn mx : List Ty} {pos p p2 spos : Pos} {a : Expr} {es : List Expr} {fr : Lf} {tys : List Ty} {L : List (Option Nat)}
include F in
theorem sx_raise [FG : FamG Xf] [FT : FamT Xf W] {k : Nat} {x : Str} (flds : List Str) (T : ExcT P w K mg base k x flds) (ha : PAL Xf K m (a :: es) tys L fr m1) (lx : LeM m1 mx) (ht : tys = List.replicate flds.length .s := by rfl) (hk : k + 1 ≤ n := by decide) (hn : flds.length ≤ 1000 := by decide) (hg : ∀ i, Gl (Xf i) x := by intro _; rfl)
    (hdb : (x == ("__debug__" : Str)) = false := by decide) (he : ∀ i, starEach (a :: es) (Xf i).env = (false, eval a (Xf i).env) :: starEach es (Xf i).env := by intro _; rfl) (hpl : ∀ i, (backTo pos (starEach es (Xf i).env)).any (·.1) = false := by intro _; rfl) :
    PSX Xf W K mg M mx m (.Raise (some (.Call (.Name x p) (a :: es) [] pos)) none spos) (xRaise x flds fr) mn := by
  obtain ⟨ta, pa, da⟩ := ha.ex
  obtain ⟨C, fI, fd, ps, OX, gC, iC, tI, FI, bI⟩ := T.ex
  refine ⟨fun _ σ H => tMkO C (spIn C flds) [] ta σ H fun cls d H' => W cls d σ H', fun i => ?_, fun {G H σ e A o e' D} st hf k' => ?_⟩
  · have e1 := F.prog i
    have e2 := F.w_ i
    have e3 := F.kk i
    have e4 := F.mg_ i
    have e5 := F.base_ i
    subst e1 e2 e3 e4 e5
    exact L2N.ps_raise (FG.calm i) (FT.tk i) (pmk_oexN OX iC tI FI ((rmOf F FG i).mono hk) bI pass0 (hg i) gC (pa i) hdb (he i) (hpl i))
  · unfold xRaise at hf
    obtain ⟨⟨ds, e1⟩, hf1, hf⟩ := oBs hf
    obtain ⟨hl, hf⟩ := ite_some2 hf
    cases hf
    refine da st hf1 fun G1 H1 vs A1 B1 s1 st1 o1 nd1 _ => ?_
    subst ht
    obtain ⟨rfl, q⟩ := of_ownA o1
    have hlv : vs.length = flds.length := by rw [q.1]; exact hl
    refine ⟨by rw [hlv]; exact hn, fun z hz => ⟨z, vs, by simp, hlv, upd_same, fun dx H' hdx hne h1 h2 h3 => ⟨rfl, dx, _, h1, h2, ?_, ?_⟩⟩⟩
    · rw [upd_ne hne] at hdx; exact hdx
    · rw [upd_ne hne] at hdx
      have eH : upd (del H' z) dx (.xd (flds.zip vs).reverse) = upd H1 dx (.xd (flds.zip vs).reverse) := by
        funext b
        by_cases hb : b = dx
        · subst hb; rw [upd_same, upd_same]
        · rw [upd_ne hb, upd_ne hb]
          by_cases hbz : b = z
          · subst hbz; rw [del_same, hz]
          · rw [del_ne hbz, h3 b hbz hb, upd_ne hbz]
      rw [eH]
      obtain ⟨s2, st2, sg⟩ := new_s (o := .xd (flds.zip vs).reverse) st1 hdx
      obtain ⟨G3, A3, s3, st3⟩ := stt_le lx st2
      have ex : ExAt K mg (upd G1 dx (.xd (flds.zip vs).reverse)) x (flds.zip ds).reverse (.ref C) (some dx) := by
        refine ⟨C, (flds.zip vs).reverse, gC, rfl, fun y hy => (by cases hy; exact upd_same), fun h => (by cases h), ?_, ?_⟩
        · rw [List.map_reverse, List.map_reverse, zip_fst hlv.symm, zip_fst hl.symm]
        · rw [List.map_reverse, List.map_reverse, zip_snd hlv.symm, zip_snd hl.symm]
          exact dqA_rev (q.mono sg)
      have s1' : Step A G H B1 G1 H1 := s1
      exact k' G3 _ σ A3 (.ref C) (some dx) ((s1'.seq0 s2).seq0 s3) st3 Pin.refl (ex.mono s3.sg)
end
def runFX (f : SfX) (r : Nat) : DFnX := fun ds => (f (ds ++ List.replicate r .none)).bind fun p => match p.1 with
  | .o (.rt d) => some (.ok d)
  | .o .nx => some (.ok .none)
  | .ex c fs => some (.ex c fs)
  | _ => none
def NoNxX (f : SfX) : Prop := ∀ e e', f e ≠ some (.o .nx, e')
theorem fnX_dl {P : Program} {w : World} {K : PySem.W.Frag} {mg : Str → Option Value} {base : Heap} {x qual : Str} {st : Stmt} {f : Addr} {fd : FuncData} {N ps : List Str} {k : Nat} {ptys : List Ty} {rty : Ty} {sf : SfX} {mr mx : List Ty} {r : Nat}
    (F : L2.Fun K x qual st f fd) (S : FnScope N ps (defScope st)) (hl : ptys.length = ps.length) (hr : N.length = ps.length + r) (hty : rty = .s ∨ NoNxX sf)
    (hbody : ∀ (cdv : Value) (A : Around) (outer : List Env) (s : Shared) (H : Hp) (E : XK), Fam (oneX (cxOf (L2N.CX P w) P w K mg base N qual (defScope st) f cdv A outer s H E)) P w K mg base k → FamG (oneX (cxOf (L2N.CX P w) P w K mg base N qual (defScope st) f cdv A outer s H E)) → FamN (oneX (cxOf (L2N.CX P w) P w K mg base N qual (defScope st) f cdv A outer s H E)) →
      FamT (oneX (cxOf (L2N.CX P w) P w K mg base N qual (defScope st) f cdv A outer s H E)) (fun cls d _ H => E cls d H) →
      PSXs (oneX (cxOf (L2N.CX P w) P w K mg base N qual (defScope st) f cdv A outer s H E)) (fun cls d _ H => E cls d H) K mg ⟨[], [], mr, [], rty⟩ mx (ptys ++ List.replicate r .u) (defBody st) sf mr) : FnX P w K mg base (k + 1) f fd ps (spX K mg ptys rty (runFX sf r)) := by
  refine fnX_of F S (fun vs H Q E h => ?_) fun cdv A outer s H vs Q E room gd h => ?_
  · obtain ⟨ds, d, G, _, o, _⟩ := h
    have := ownA_len o
    rw [List.length_map] at this
    omega
  · obtain ⟨ds, d, G, hF, o0, sub, kont⟩ := h
    have ln := ownA_len o0
    rw [List.length_map] at ln
    obtain ⟨t, pt, dt⟩ := (hbody cdv A outer s H E ⟨fun _ => rfl, fun _ => rfl, fun _ => rfl, fun _ => rfl, fun _ => rfl, fun _ => room.u, fun _ => S.nd⟩ ⟨fun _ => gd, fun _ => rfl, fun _ => room.hd⟩ ⟨fun _ => passes_of rfl⟩ ⟨fun _ => L2N.takes_of rfl rfl rfl rfl⟩).ex
    refine ⟨t, pt (), ?_⟩
    obtain ⟨⟨o, e'⟩, h1, h2⟩ := oBs hF
    have hst : L2.start N vs = vs.map some ++ List.replicate r none := by
      unfold L2.start
      rw [show N.length - vs.length = r by omega]
    have st0 : Stt K (ptys ++ List.replicate r .u) G H (L2.start N vs) (ds ++ List.replicate r .none) [] := ⟨by rw [hst]; exact ownA_us r o0, List.nodup_nil, sub⟩
    refine dt st0 h1 ?_
    match o, h1, h2 with
    | .o .nx, h1, h2 =>
      cases h2
      rcases hty with hty | hty
      · subst hty
        exact fun G' H' σ' A' s' st' pn => kont G' H' .non [] (s'.less fun a h => by cases h) (.s .non) List.nodup_nil st'.sub
      · exact absurd h1 (hty _ _)
    | .o .bk, _, h2 => cases h2
    | .o .ct, _, h2 => cases h2
    | .o (.rt d1), _, h2 =>
      cases h2
      exact fun G' H' σ' v Av A' s' st' ov ndv pn => kont G' H' v Av (s'.less fun a ha => List.mem_append_left _ ha) ov (List.nodup_append.mp ndv).1 st'.sub
    | .ex c fs, _, h2 =>
      cases h2
      exact fun G' H' σ' A' cls dx s' st' pn ex => kont G' H' cls dx (s'.less fun a h => by cases h) ex st'.sub
end DL
namespace DL
open PySem L2 PySem.Spec
structure TI {ι : Type} (Xf : ι → Cx) (W : WX) where
  i : ι
  pn : List (Addr × Obj)
  xe : Value → Shared → Prop
  tk : L2N.Takes ((Xf i).tr pn xe) W
  ps : PassesOwn (model (Xf i).prog (Xf i).w) (Xf i).A (Xf i).env xe
def tryF {ι : Type} (Xf : ι → Cx) (W : WX) : TI Xf W → Cx := fun b => (Xf b.i).tr b.pn b.xe
section
variable {ι : Type} {Xf : ι → Cx} {P : Program} {w : World} {K : PySem.W.Frag} {mg : Str → Option Value} {base : Heap} {n : Nat} {W : WX}
instance [F : Fam Xf P w K mg base n] : Fam (tryF Xf W) P w K mg base n :=
  ⟨fun b => F.prog b.i, fun b => F.w_ b.i, fun b => F.kk b.i, fun b => F.mg_ b.i, fun b => F.base_ b.i, fun b => F.room b.i, fun b => F.nd b.i⟩
instance [F : FamG Xf] : FamG (tryF Xf W) := ⟨fun b => F.gd b.i, fun b => F.calm b.i, fun b => F.hd b.i⟩
instance : FamN (tryF Xf W) := ⟨fun b => b.ps⟩
instance : FamT (tryF Xf W) W := ⟨fun b => b.tk⟩
end
structure SI {ι : Type} (Xf : ι → Cx) (cls : Value) (d : Option Addr) where
  i : ι
  oe : Obj
  pn : List (Addr × Obj)
  hz : L2N.Zn cls d oe
  hf : ∃ vs, oe.data = .fields vs
def suF {ι : Type} (Xf : ι → Cx) (a : Addr) (cls : Value) (d : Option Addr) : SI Xf cls d → Cx := fun b => (Xf b.i).suite a ((a, b.oe) :: b.pn)
section
variable {ι : Type} {Xf : ι → Cx} {P : Program} {w : World} {K : PySem.W.Frag} {mg : Str → Option Value} {base : Heap} {n : Nat} {a : Addr} {cls : Value} {d : Option Addr}
instance [F : Fam Xf P w K mg base n] : Fam (suF Xf a cls d) P w K mg base n :=
  ⟨fun b => F.prog b.i, fun b => F.w_ b.i, fun b => F.kk b.i, fun b => F.mg_ b.i, fun b => F.base_ b.i, fun b => ⟨(F.room b.i).dp, (F.room b.i).un⟩, fun b => F.nd b.i⟩
instance [F : FamG Xf] : FamD (suF Xf a cls d) := ⟨fun b => F.gd b.i⟩
end
abbrev CT := List (Str × List Str)
def sTryA (tb : CT) (j : Nat) (fb : SfX) (fs : Sf) : Sf := fun e => (fb e).bind fun p => match p.1 with
  | .o x => some (x, p.2)
  | .ex c fl => if tb.lookup c = some (fl.map (·.1)) then fs (p.2.set j (.tuple (.str c :: fl.map (·.2)))) else none
def uAt (m : List Ty) (j : Nat) : Bool := match m[j]? with
  | some .u => true
  | none => true
  | _ => false
section
variable {K : PySem.W.Frag} {G H : Hp}
theorem ownA_setn {m : List Ty} {e : En} {σ : St} {A : List Addr} {j : Nat} (h : OwnA K G H m e σ A) (hu : uAt m j = true) : OwnA K G H m e (σ.set j none) A := by
  unfold uAt at hu
  cases q : m[j]? with
  | none =>
    have hl := (ownA_len h).2
    have : m.length ≤ j := List.getElem?_eq_none_iff.mp q
    rw [List.set_eq_of_length_le (by have := (ownA_len h).1; omega)]
    exact h
  | some t =>
    rw [q] at hu
    have ht : t = .u := by cases t <;> first | rfl | cases hu
    subst ht
    have hl := ownA_len h
    have hj : j < e.length := by have := (List.getElem?_eq_some_iff.mp q).1; omega
    have := ownA_set0 h (t := .u) (d := e[j]) (v := none) (.inl q) (.u _ _)
    rwa [set_id q, set_id (List.getElem?_eq_getElem hj)] at this
theorem stt_setn {m : List Ty} {e : En} {σ : St} {A : List Addr} {j : Nat} (h : Stt K m G H σ e A) (hu : uAt m j = true) : Stt K m G H (σ.set j none) e A := ⟨ownA_setn h.own hu, h.nd, h.sub⟩
end
theorem pss_any {X : Cx} {st : List Stmt} : PSs X st (fun D σ H => ∃ t : TS, PSs X st t ∧ t D σ H) :=
  ⟨fun pins s σ H D I h => by obtain ⟨t, p, q⟩ := h; exact p.run pins s σ H D I q⟩
theorem pss_imp {X : Cx} {st : List Stmt} {t u : TS} (h : PSs X st t) (k : ∀ D σ H, u D σ H → t D σ H) : PSs X st u :=
  ⟨fun pins s σ H D I q => h.run pins s σ H D I (k _ _ _ q)⟩
section
variable {ι : Type} {Xf : ι → Cx} {P : Program} {w : World} {K : PySem.W.Frag} {mg : Str → Option Value} {base : Heap} {n : Nat} [F : Fam Xf P w K mg base n]
variable {M : Mk} {m mn mx : List Ty} {pos pos' np : Pos} {x nm : Str} {cx : Value} {body suite : List Stmt} {b₀ : Stmt} {fb : SfX} {fs : Sf}
end
end DL
namespace DL
open PySem L2 PySem.Spec
def gOk (d : PyData) : Option PyData := some (.list [d])
def gUn : PyData → Option PyData
  | .list [d] => some d
  | _ => none
def gRz (c : Str) : PyData → Option PyData
  | .tuple vs => some (.tuple (.str c :: vs.reverse))
  | _ => none
def decR (tb : CT) : PyData → Option Res
  | .list [d] => some (.ok d)
  | .tuple (.str c :: vs) => (tb.lookup c).bind fun l => if l.length = vs.length then some (.ex c (l.zip vs)) else none
  | _ => none
def gIsOk (tb : CT) : PyData → Option PyData
  | .list [_] => some (.bool true)
  | .tuple (.str c :: vs) => (tb.lookup c).bind fun l => if l.length = vs.length then some (.bool false) else none
  | _ => none
def gIsE (rt : List (Str × Bool)) : PyData → Option PyData
  | .tuple (.str c :: _) => (rt.lookup c).bind fun b => some (.bool b)
  | _ => none
def gFldE (tb : CT) (f : Str) : PyData → Option PyData
  | .tuple (.str c :: vs) => (tb.lookup c).bind fun l => (l.zip vs).lookup f
  | _ => none
theorem decR_of {tb : CT} {v : PyData} {r : Res} (h : decR tb v = some r) : (∃ d, v = .list [d] ∧ r = .ok d) ∨ (∃ c vs l, v = .tuple (.str c :: vs) ∧ tb.lookup c = some l ∧ l.length = vs.length ∧ r = .ex c (l.zip vs)) := by
  unfold decR at h
  split at h
  · cases h; exact .inl ⟨_, rfl, rfl⟩
  · rename_i c vs
    obtain ⟨l, h1, h2⟩ := oBs h
    obtain ⟨h3, h4⟩ := ite_some2 h2
    cases h4
    exact .inr ⟨c, vs, l, rfl, h1, h3, rfl⟩
  · cases h
theorem isOk_of {tb : CT} {v b : PyData} (h : gIsOk tb v = some b) : (∃ d, v = .list [d] ∧ b = .bool true) ∨ (∃ c vs l, v = .tuple (.str c :: vs) ∧ tb.lookup c = some l ∧ l.length = vs.length ∧ b = .bool false) := by
  unfold gIsOk at h
  split at h
  · cases h; exact .inl ⟨_, rfl, rfl⟩
  · rename_i c vs
    obtain ⟨l, h1, h2⟩ := oBs h
    obtain ⟨h3, h4⟩ := ite_some2 h2
    cases h4
    exact .inr ⟨c, vs, l, rfl, h1, h3, rfl⟩
  · cases h
theorem decR_ex {tb : CT} {c : Str} {vs : List PyData} {l : List Str} (h : tb.lookup c = some l) (hl : l.length = vs.length) : decR tb (.tuple (.str c :: vs)) = some (.ex c (l.zip vs)) := by
  show (tb.lookup c).bind _ = _
  rw [h, Option.bind_some, if_pos hl]
def decX (tb : CT) (f : Sf) : SfX := fun e => (f e).bind fun p => match p.1 with
  | .rt v => (decR tb v).bind fun r => match r with
    | .ok d => some (.o (.rt d), p.2)
    | .ex c fs => some (.ex c fs, p.2)
  | .nx => some (.o .nx, p.2)
  | .bk => some (.o .bk, p.2)
  | .ct => some (.o .ct, p.2)
def decF (tb : CT) (F : DFn) : DFnX := fun ds => (F ds).bind fun q => decR tb q.1
def NoRt (f : Sf) : Prop := ∀ e d e', f e ≠ some (.rt d, e')
theorem nrt_nil : NoRt sNil := fun e d e' h => by cases h
theorem nrt_asg {j : Nat} {f : Ef} : NoRt (sAsg j f) := fun e d e' h => by
  obtain ⟨p, _, h⟩ := Option.map_eq_some_iff.mp h
  cases h
theorem nnx_dec {tb : CT} {f : Sf} (h : NoNx f) : NoNxX (decX tb f) := fun e e' z => by
  obtain ⟨⟨o, e1⟩, h1, h2⟩ := oBs z
  cases o with
  | nx => exact h _ _ h1
  | bk => cases h2
  | ct => cases h2
  | rt v =>
    obtain ⟨r, _, h2⟩ := oBs h2
    cases r <;> cases h2
section
variable {ι : Type} {Xf : ι → Cx} {W : WX} {P : Program} {w : World} {K : PySem.W.Frag} {mg : Str → Option Value} {base : Heap} {n : Nat} [F : Fam Xf P w K mg base n]
variable {M : Mk} {m m1 m2 mn mx : List Ty} {pos p p2 spos : Pos} {c v a : Expr} {es : List Expr} {st : Stmt} {rest body orelse : List Stmt} {f g : Sf} {fx gx : SfX} {bf : Bf} {ef : Ef} {fr : Lf} {tys : List Ty} {L : List (Option Nat)} {tb : CT} {rty ty : Ty}
theorem sx_mono (h : PSX Xf W K mg M mx m st fx mn) (k : ∀ e r, gx e = some r → fx e = some r) : PSX Xf W K mg M mx m st gx mn := by
  obtain ⟨t, p, d⟩ := h.ex
  exact ⟨t, p, fun st' hf kk => d st' (k _ _ hf) kk⟩
theorem sxs_mono (h : PSXs Xf W K mg M mx m rest fx mn) (k : ∀ e r, gx e = some r → fx e = some r) : PSXs Xf W K mg M mx m rest gx mn := by
  obtain ⟨t, p, d⟩ := h.ex
  exact ⟨t, p, fun st' hf kk => d st' (k _ _ hf) kk⟩
theorem dec_xO (h : NoRt f) (e : En) (r : OutX × En) (hf : decX tb f e = some r) : xO f e = some r := by
  obtain ⟨⟨o, e1⟩, h1, h2⟩ := oBs hf
  unfold xO
  rw [h1]
  cases o with
  | nx => cases h2; rfl
  | bk => cases h2; rfl
  | ct => cases h2; rfl
  | rt d => exact absurd h1 (h _ _ _)
theorem ex_of (h : PSd Xf K M m st f mn) (nr : NoRt f) : PSX Xf W K mg M mx m st (decX tb f) mn := sx_mono (sx_of h) (dec_xO nr)
theorem exs_of (h : PSsd Xf K M m rest f mn) (nr : NoRt f) : PSXs Xf W K mg M mx m rest (decX tb f) mn := sxs_mono (sxs_of h) (dec_xO nr)
theorem exs_one (h : PSX Xf W K mg M mx m st (decX tb f) mn) : PSXs Xf W K mg M mx m [st] (decX tb f) mn := sxs_one h
theorem exs_cons (h1 : PSX Xf W K mg M mx m st (decX tb f) m1) (h2 : PSXs Xf W K mg M mx m1 rest (decX tb g) mn) : PSXs Xf W K mg M mx m (st :: rest) (decX tb (sSeq f g)) mn :=
  sxs_mono (sxs_cons h1 h2) fun e r hf => by
    obtain ⟨⟨o, e1⟩, h3, h4⟩ := oBs hf
    obtain ⟨⟨o2, e2⟩, h5, h6⟩ := oBs h3
    unfold xSeqX decX
    rw [h5, Option.bind_some]
    cases o2 with
    | nx =>
      have h6 : g e2 = some (o, e1) := h6
      show decX tb g e2 = some r
      unfold decX
      rw [h6]
      exact h4
    | bk => cases h6; cases h4; rfl
    | ct => cases h6; cases h4; rfl
    | rt d =>
      cases h6
      obtain ⟨r1, h7, h8⟩ := oBs h4
      show ((((decR tb d).bind _ : Option (OutX × En))).bind _) = some r
      rw [h7, Option.bind_some]
      cases r1 with
      | ok d1 => cases h8; rfl
      | ex c fs => cases h8; rfl
theorem ex_if (hc : PB Xf K m c bf m1) (ha : PSXs Xf W K mg M mx m1 body (decX tb f) mn) (hb : PSXs Xf W K mg M mx m1 orelse (decX tb g) mn) : PSX Xf W K mg M mx m (.If c body orelse pos) (decX tb (sIf bf f g)) mn :=
  sx_mono (sx_if hc ha hb) fun e r hf => by
    obtain ⟨⟨o, e1⟩, h3, h4⟩ := oBs hf
    obtain ⟨⟨b, e2⟩, h5, h6⟩ := oBs h3
    unfold xIfX
    rw [h5, Option.bind_some]
    cases b with
    | true =>
      have h6 : f e2 = some (o, e1) := h6
      show decX tb f e2 = some r
      unfold decX
      rw [h6]
      exact h4
    | false =>
      have h6 : g e2 = some (o, e1) := h6
      show decX tb g e2 = some r
      unfold decX
      rw [h6]
      exact h4
theorem ex_ret (he : PD Xf K m v M.ty ef m1) (l : LeM m1 M.r) : PSX Xf W K mg M mx m (.Return (some v) pos) (decX tb (sRet (e1 gOk ef))) mn :=
  sx_mono (sx_of (ds_ret he l)) fun e r hf => by
    obtain ⟨⟨o, e1'⟩, h3, h4⟩ := oBs hf
    obtain ⟨⟨d, e2⟩, h5, h6⟩ := Option.map_eq_some_iff.mp h3
    unfold e1 at h5
    obtain ⟨⟨d1, e3⟩, h7, h8⟩ := oBs h5
    cases h8
    cases h6
    cases h4
    unfold xO sRet
    rw [h7]
    rfl
theorem zip_rev {α : Type} {l : List Str} {r : List α} (h : l.length = r.length) : (l.zip r).reverse = l.reverse.zip r.reverse := by
  induction l generalizing r with
  | nil => simp
  | cons a l ih =>
    cases r with
    | nil => simp at h
    | cons b r =>
      have h' : l.length = r.length := by simpa using h
      rw [List.zip_cons_cons, List.reverse_cons, List.reverse_cons, List.reverse_cons, ih h', List.zip_append (by simp [h'])]
      rfl
include F in
theorem ex_raise [FG : FamG Xf] [FT : FamT Xf W] {k : Nat} {x : Str} (flds : List Str) (T : ExcT P w K mg base k x flds) (ha : PAL Xf K m (a :: es) tys L fr m1) (lx : LeM m1 mx) (hl : tb.lookup x = some flds.reverse := by rfl) (ht : tys = List.replicate flds.length .s := by rfl) (hk : k + 1 ≤ n := by decide) (hn : flds.length ≤ 1000 := by decide) (hg : ∀ i, Gl (Xf i) x := by intro _; rfl)
    (hdb : (x == ("__debug__" : Str)) = false := by decide) (he : ∀ i, starEach (a :: es) (Xf i).env = (false, eval a (Xf i).env) :: starEach es (Xf i).env := by intro _; rfl) (hpl : ∀ i, (backTo pos (starEach es (Xf i).env)).any (·.1) = false := by intro _; rfl) :
    PSX Xf W K mg M mx m (.Raise (some (.Call (.Name x p) (a :: es) [] pos)) none spos) (decX tb (sRet (e1 (gRz x) (eTup fr)))) mn :=
  sx_mono (sx_raise flds T ha lx ht hk hn hg hdb he hpl) fun e r hf => by
    obtain ⟨⟨o, e1'⟩, h3, h4⟩ := oBs hf
    obtain ⟨⟨d, e2⟩, h5, h6⟩ := Option.map_eq_some_iff.mp h3
    unfold e1 eTup at h5
    obtain ⟨⟨d1, e3⟩, h7, h8⟩ := oBs h5
    obtain ⟨⟨ds, e4⟩, h9, h10⟩ := oBs h7
    cases h10
    cases h8
    cases h6
    obtain ⟨r1, h11, h12⟩ := oBs h4
    unfold xRaise
    rw [h9, Option.bind_some]
    rcases decR_of h11 with ⟨d2, z, _⟩ | ⟨c2, vs2, l2, z, z2, z3, rfl⟩
    · cases z
    · cases z
      rw [hl] at z2
      cases z2
      have hl2 : ds.length = flds.length := by simpa using z3.symm
      cases h12
      show (if ds.length = flds.length then some (OutX.ex x (flds.zip ds).reverse, _) else none) = _
      rw [if_pos hl2, zip_rev hl2.symm]
end
theorem FnX.imp {P : Program} {w : World} {K : PySem.W.Frag} {mg : Str → Option Value} {base : Heap} {k : Nat} {f : Addr} {fd : FuncData} {ps : List Str} {sp sp' : Sp} (h : FnX P w K mg base k f fd ps sp') (i : ∀ vs H Q E, sp vs H Q E → sp' vs H Q E) : FnX P w K mg base k f fd ps sp :=
  ⟨fun vs H Q E z => h.len vs H Q E (i _ _ _ _ z), fun A outer s H args us vs Q E r g e0 b rel z => h.run A outer s H args us vs Q E r g e0 b rel (i _ _ _ _ z)⟩
theorem fnX_dlE {P : Program} {w : World} {K : PySem.W.Frag} {mg : Str → Option Value} {base : Heap} {x qual : Str} {st : Stmt} {f : Addr} {fd : FuncData} {N ps : List Str} {k : Nat} {ptys : List Ty} {rty : Ty} {sf : Sf} {mr mx : List Ty} {r : Nat} (tb : CT)
    (F : L2.Fun K x qual st f fd) (S : FnScope N ps (defScope st)) (hl : ptys.length = ps.length) (hr : N.length = ps.length + r) (hty : NoNx sf)
    (hbody : ∀ (cdv : Value) (A : Around) (outer : List Env) (s : Shared) (H : Hp) (E : XK), Fam (oneX (cxOf (L2N.CX P w) P w K mg base N qual (defScope st) f cdv A outer s H E)) P w K mg base k → FamG (oneX (cxOf (L2N.CX P w) P w K mg base N qual (defScope st) f cdv A outer s H E)) → FamN (oneX (cxOf (L2N.CX P w) P w K mg base N qual (defScope st) f cdv A outer s H E)) →
      FamT (oneX (cxOf (L2N.CX P w) P w K mg base N qual (defScope st) f cdv A outer s H E)) (fun cls d _ H => E cls d H) →
      PSXs (oneX (cxOf (L2N.CX P w) P w K mg base N qual (defScope st) f cdv A outer s H E)) (fun cls d _ H => E cls d H) K mg ⟨[], [], mr, [], rty⟩ mx (ptys ++ List.replicate r .u) (defBody st) (decX tb sf) mr) : FnX P w K mg base (k + 1) f fd ps (spX K mg ptys rty (decF tb (runF sf ptys r))) := by
  refine (fnX_dl F S hl hr (.inr (nnx_dec hty)) hbody).imp fun vs H Q E h => ?_
  obtain ⟨ds, q, G, h1, rest⟩ := h
  refine ⟨ds, q, G, ?_, rest⟩
  obtain ⟨⟨v, fs⟩, h2, h3⟩ := oBs h1
  obtain ⟨⟨o, e1⟩, h4, h5⟩ := oBs h2
  unfold runFX decX
  rw [h4, Option.bind_some]
  cases o with
  | nx => exact absurd h4 (hty _ _)
  | bk => cases h5
  | ct => cases h5
  | rt d =>
    cases h5
    have h3 : decR tb v = some q := h3
    show (((decR tb v).bind _ : Option (OutX × En))).bind _ = some q
    rw [h3, Option.bind_some]
    cases q <;> rfl
section
variable {ι : Type} {Xf : ι → Cx} {W : WX} {P : Program} {w : World} {K : PySem.W.Frag} {mg : Str → Option Value} {base : Heap} {n : Nat} [F : Fam Xf P w K mg base n] [FG : FamG Xf]
variable {m m1 m2 m3 : List Ty} {pos p p2 : Pos} {a b c : Expr} {es : List Expr} {f g h : Ef} {fr : Lf} {ty : Ty} {tys : List Ty} {L : List (Option Nat)} {tb : CT}
end
end DL
namespace DL
open PySem L2 PySem.Spec
section
variable {ι : Type} {Xf : ι → Cx} {K : PySem.W.Frag} {M : Mk} {m mn : List Ty} {st : Stmt} {f g : Sf}
theorem ds_imp (h : PSd Xf K M m st f mn) (rel : ∀ e r, g e = some r → f e = some r) : PSd Xf K M m st g mn := by
  obtain ⟨t, p, d⟩ := h.ex
  exact ⟨t, p, fun s hf k => d s (rel _ _ hf) k⟩
end
theorem set_getD {e : En} {j : Nat} {v : PyData} : (e.set j v).getD j .none = if j < e.length then v else .none := by
  rw [List.getD_eq_getElem?_getD]
  by_cases h : j < e.length
  · rw [List.getElem?_set_self h, if_pos h]; rfl
  · rw [if_neg h, List.getElem?_eq_none (by rw [List.length_set]; omega)]; rfl
section
variable {ι : Type} {Xf : ι → Cx} {P : Program} {w : World} {K : PySem.W.Frag} {mg : Str → Option Value} {base : Heap} {n : Nat} [F : Fam Xf P w K mg base n] [FG : FamG Xf]
variable {M : Mk} {m m1 mn mx : List Ty} {pos pos' np p2 p3 cp : Pos} {x nm g y : Str} {cx : Value} {suite : List Stmt} {b₀ : Stmt} {fs : Sf} {Fn : DFn} {fr : Lf} {tys : List Ty} {L : List (Option Nat)} {rty : Ty} {a : Expr} {es : List Expr} {k : Nat}
def Suit {ι : Type} (Xf : ι → Cx) (K : PySem.W.Frag) (mg : Str → Option Value) (M : Mk) (tb : CT) (mx : List Ty) (j : Nat) (suite : List Stmt) (fs : Sf) (mn : List Ty) : Prop :=
  ∀ (a : Addr) (cls : Value) (d : Option Addr) (fl : List (Str × V)) (c : Str), tb.lookup c = some (fl.map (·.1)) → mg c = some cls → (d = none → fl = []) → PSsd (suF Xf a cls d) K M (mx.set j (.e a d fl c)) suite fs mn
end
end DL
namespace DL
open PySem L2 PySem.Spec
def FldT (K : PySem.W.Frag) (mg : Str → Option Value) (tb : CT) : Prop := ∀ c l, tb.lookup c = some l → ∃ D, mg c = some (.ref D) ∧ XfC K D ∧ ∀ f ∈ l, PySem.W.findIn K (.ref D) f = some none
section
variable {ι : Type} {Xf : ι → Cx} {P : Program} {w : World} {K : PySem.W.Frag} {mg : Str → Option Value} {base : Heap} {n : Nat} [F : Fam Xf P w K mg base n]
variable {m : List Ty} {pos p p1 p2 p3 : Pos} {x nm c : Str} {a : Addr} {cls : Value} {d : Option Addr} {fl : List (Str × V)} {tb : CT} {rt : List (Str × Bool)} {cv : Value} {v : V} {l : List Str}
theorem xe_slot {G H : Hp} {σ : St} {e : En} {A : List Addr} {j : Nat} (st : Stt K m G H σ e A) (hm : m[j]? = some (.e a d fl c)) : ∃ ds, e.getD j .none = .tuple (.str c :: ds) ∧ σ[j]? = some (some (.ref a)) ∧ (∀ x, d = some x → H x = some (.xd fl)) ∧ DqA K G (fl.map (·.2)) ds := by
  obtain ⟨d', v, Aj, A0, h1, h2, h3, _, _⟩ := ownA_take st.own hm
  cases h3 with
  | e k1 k2 => exact ⟨_, by rw [List.getD_eq_getElem?_getD, h1]; rfl, h2, fun x hx => st.sub _ _ (k1 x hx), k2⟩
inductive ClsE : (X : Cx) → List Expr → List V → Prop
  | nil (X : Cx) : ClsE X [] []
  | cons {X : Cx} {x : Str} {q : Pos} {es : List Expr} {v : V} {vs : List V} : PE X (.Name x q) (tC v) → (starEach (.Name x q :: es) X.env = (false, eval (.Name x q) X.env) :: starEach es X.env) → ClsE X es vs → ClsE X (.Name x q :: es) (v :: vs)
include F in
theorem pd_fldX (j : Nat) {f : Str} (hm : m[j]? = some (.e a d fl c)) (hmc : mg c = some cls) (htb : tb.lookup c = some (fl.map (·.1))) (hdf : d = none → fl = []) (hi : FldT K mg tb)
    (hN : ∀ i, (suF Xf a cls d i).N[j]? = some nm := by intro _; rfl) (hvs : ∀ i, Vis (suF Xf a cls d i).env.scope nm := by first | (intro _; exact Or.inl rfl) | (intro _; exact Or.inr (Or.inl rfl)) | (intro _; exact Or.inr (Or.inr rfl))) (hd : (nm == ("__debug__" : Str)) = false := by decide) (hcd : (nm == ("__classdict__" : Str)) = false := by decide)
    (hb : ∀ i, attributeBase (.Name nm p1) f (Xf i).env (eval (.Name nm p1) (Xf i).env) = eval (.Name nm p1) (Xf i).env := by intro _; rfl) :
    PD (suF Xf a cls d) K m (.Attribute (.Name nm p1) f pos) .s (e1 (gFldE tb f) (eVar j)) m := by
  obtain ⟨D, hD, XC, hk⟩ := hi c _ htb
  rw [hmc] at hD
  cases hD
  by_cases hno : f ∈ fl.map (·.1)
  · refine ⟨_, fun i => pe_xf (X := Xf i.i) (pos := pos) (n := f) (a := a) (cls := .ref D) (d := d) (pn := i.pn) (C := D) (by rw [F.kk i.i]; exact XC) (by rw [F.kk i.i]; exact hk f hno) i.hz.zc i.hf (pe_var (X := suF Xf a (.ref D) d i) (pos := p1) (hN i) (hvs i) hd hcd) (hb i.i), fun {G H σ e A dd e' Q} st hf k => ?_⟩
    obtain ⟨ds, h1, h2, h3, h4⟩ := xe_slot st hm
    have hf : ((gFldE tb f (e.getD j .none)).bind fun r => some (r, e)) = some (dd, e') := hf
    rw [h1] at hf
    obtain ⟨r, h5, h6⟩ := oBs hf
    cases h6
    have h5 : ((tb.lookup c).bind fun l => (l.zip ds).lookup f) = some dd := h5
    rw [htb, Option.bind_some] at h5
    -- the same place on both sides
    have key : ∀ (fl : List (Str × V)) (ds : List PyData), DqA K G (fl.map (·.2)) ds → ((fl.map (·.1)).zip ds).lookup f = some dd → ∃ v, fl.lookup f = some v ∧ Dq K G v dd := by
      intro fl
      induction fl with
      | nil => intro ds _ h; cases ds <;> cases h
      | cons q fl ih =>
        intro ds hq h
        cases ds with
        | nil => cases h
        | cons y ds =>
          obtain ⟨g, z⟩ := q
          rw [List.map_cons, List.zip_cons_cons, List.lookup_cons] at h
          rw [List.lookup_cons]
          cases hfg : f == g with
          | true => rw [hfg] at h; cases h; exact ⟨z, rfl, hq.head⟩
          | false => rw [hfg] at h; exact ih ds hq.tail h
    obtain ⟨v, hv, qv⟩ := key fl ds h4 h5
    cases d with
    | none => rw [hdf rfl] at hv; cases hv
    | some x1 => exact ⟨.ref a, h2, rfl, rfl, x1, fl, v, rfl, h3 x1 rfl, hv, ans_s st qv k⟩
  · -- no such field: nothing to show
    refine ⟨fun _ _ _ => False, fun i => ⟨fun _ _ _ _ _ _ z => z.elim⟩, fun {G H σ e A dd e' Q} st hf k => ?_⟩
    exfalso
    obtain ⟨ds, h1, h2, h3, h4⟩ := xe_slot st hm
    have hf : ((gFldE tb f (e.getD j .none)).bind fun r => some (r, e)) = some (dd, e') := hf
    rw [h1] at hf
    obtain ⟨r, h5, h6⟩ := oBs hf
    have h5 : ((tb.lookup c).bind fun l => (l.zip ds).lookup f) = some r := h5
    rw [htb, Option.bind_some] at h5
    have key : ∀ (ns : List Str) (ds : List PyData), f ∉ ns → (ns.zip ds).lookup f = none := by
      intro ns
      induction ns with
      | nil => intro ds _; rfl
      | cons g ns ih =>
        intro ds hf
        cases ds with
        | nil => rfl
        | cons y ds =>
          rw [List.zip_cons_cons, List.lookup_cons]
          have : (f == g) = false := by simpa using fun z : f = g => hf (by rw [z]; exact List.mem_cons_self ..)
          rw [this]
          exact ih ds fun z => hf (List.mem_cons_of_mem _ z)
    rw [key _ _ hno] at h5
    cases h5
end
theorem ct_nil {p : Str → List Str → Prop} : ∀ c l, ([] : CT).lookup c = some l → p c l := fun c l h => by cases h
theorem ct_cons {p : Str → List Str → Prop} {x : Str} {l0 : List Str} {tb : CT} (h : p x l0) (t : ∀ c l, tb.lookup c = some l → p c l) : ∀ c l, (((x, l0) :: tb : CT)).lookup c = some l → p c l := fun c l z => by
  rw [List.lookup_cons] at z
  cases e : c == x with
  | true => rw [e] at z; cases z; rw [eq_of_beq e]; exact h
  | false => rw [e] at z; exact t c l z
theorem init2 {P : Program} {w : World} {K : PySem.W.Frag} {mg : Str → Option Value} {base : Heap} {C fI : Addr} {fd : FuncData} {qual f y f2 y2 : Str} {st : Stmt} {p1 p2 p3 p4 q1 q2 q3 q4 : Pos} (F : L2.Fun K "__init__" qual st fI fd) (S : FnScope ["self", y, y2] ["self", y, y2] (defScope st)) (hb : defBody st = [.Assign [.Attribute (.Name "self" p1) f p2] (.Name y p3) p4, .Assign [.Attribute (.Name "self" q1) f2 q2] (.Name y2 q3) q4])
    (T : OexC K C) (hno : PySem.W.findIn K (.ref C) f = some none) (hno2 : PySem.W.findIn K (.ref C) f2 = some none)
    (hv1 : Vis (defScope st) "self") (hv2 : Vis (defScope st) y) (hv3 : Vis (defScope st) y2) (hdy : (y == ("__debug__" : Str)) = false := by decide) (hcy : (y == ("__classdict__" : Str)) = false := by decide) (hdy2 : (y2 == ("__debug__" : Str)) = false := by decide) (hcy2 : (y2 == ("__classdict__" : Str)) = false := by decide)
    (hs : ∀ env, swapsWith (.Name y p3) (some (.Attribute (.Name "self" p1) f p2)) p4.line env = pure false := by intro _; rfl) (hs2 : ∀ env, swapsWith (.Name y2 q3) (some (.Attribute (.Name "self" q1) f2 q2)) q4.line env = pure false := by intro _; rfl) : FnOk P w K mg base CX0 1 fI fd ["self", y, y2] (spIn C [f, f2]) := by
  refine F.ok S (fun vs H Q E h => ?_) fun cdv A outer s H vs Q E hr h => ⟨tSeq (tOst K f (tVar 0) (tVar 1)) (tOst K f2 (tVar 0) (tVar 2)), ?_, ?_⟩
  · obtain ⟨a, ys, rfl, hl, _⟩ := h
    simp [hl]
  · rw [hb]
    exact pss_cons (ps_ost (pe_var rfl hv1) (pe_var rfl hv2 hdy hcy) (hs _)) (pss_one (ps_ost (pe_var rfl hv1) (pe_var rfl hv3 hdy2 hcy2) (hs2 _)))
  · obtain ⟨a, ys, rfl, hl, he, k⟩ := h
    match ys, hl with
    | [z1, z2], _ =>
      refine ⟨z1, rfl, .ref a, rfl, a, C, rfl, T, hno, .inl ⟨he, fun dx hd ne => ?_⟩⟩
      refine ⟨z2, rfl, .ref a, rfl, a, C, rfl, T, hno2, .inr ⟨dx, [(f, z1)], upd_same, by rw [upd_ne ne, upd_same], by simp, ?_⟩⟩
      exact k dx _ hd ne (by rw [upd_ne (fun z => ne z.symm), upd_same]) (by rw [upd_same]; rfl) fun b h1 h2 => by rw [upd_ne h2, upd_ne h1, upd_ne h2]
end DL
namespace DL
open PySem L2 PySem.Spec
def clsAt (s : Stmt) (k : Nat) : Stmt := match s with
  | .ClassDef (body := b) .. => b.getD k (.Pass ⟨0, 0, 0, 0⟩)
  | s => s
section
variable {K : PySem.W.Frag} {C CL N : Addr} {nm q : Str} {bs : List Value} {sn : List Str} {sub : List Value} {ab : Bool} {col : Option Bool} {dd : Option Addr} {m0 m1 m2 m3 m5 : Option Value}
end
end DL
namespace DL
open PySem L2 PySem.Spec
def gHd2 : PyData → Option (PyData × PyData)
  | .list [d0, d1, _] => some (d0, d1)
  | _ => none
def sUnal (i j0 j1 : Nat) : Sf := fun e => (gHd2 (e.getD i .none)).bind fun q => some (.nx, (e.set j0 q.1).set j1 q.2)
section
variable {ι : Type} {Xf : ι → Cx} {P : Program} {w : World} {K : PySem.W.Frag} {mg : Str → Option Value} {base : Heap} {n : Nat} [F : Fam Xf P w K mg base n]
variable {M : Mk} {m mn : List Ty} {pos pos' p tpos q0 q1 q2 : Pos} {x x0 x1 x2 : Str} {rest : List Stmt} {g : Sf} {t2 : Ty}
end
section
variable {ι : Type} {Xf : ι → Cx} {P : Program} {w : World} {K : PySem.W.Frag} {mg : Str → Option Value} {base : Heap} {n : Nat} [F : Fam Xf P w K mg base n]
variable {m : List Ty} {pos : Pos} {x : Str} {ts : List Ty} {t : Ty} {v : V}
end
def lAl (j : Nat) (r : Lf) : Lf := fun e => (r e).bind fun p => some (p.2.getD j .none :: p.1, p.2)
section
variable {ι : Type} {Xf : ι → Cx} {P : Program} {w : World} {K : PySem.W.Frag} {mg : Str → Option Value} {base : Heap} {n : Nat} [F : Fam Xf P w K mg base n]
variable {m m2 : List Ty} {p : Pos} {es : List Expr} {fr : Lf} {t : Ty} {tys : List Ty} {L : List (Option Nat)}
end
end DL
namespace DL
open PySem PySem.W PySem.Calls PyProof.Rows
section
variable {prog : Program} {w : World} {A : Around} {E : Value → Shared → Prop} {s : Shared}
end
end DL
namespace DL
open PySem L2 PySem.Spec
section
variable {ι : Type} {Xf : ι → Cx} {P : Program} {w : World} {K : PySem.W.Frag} {mg : Str → Option Value} {base : Heap} {n : Nat} [F : Fam Xf P w K mg base n]
end
end DL
namespace DL
open PySem L2 PySem.Spec PyProof.Rows
section
variable {X : Cx} {e : Expr} {te : TE} {p apos cpos pos : Pos}
end
def gDVals (d : PyData) : Option PyData := match d with
  | .dict kvs => some (.list (kvs.map (·.2)))
  | _ => none
def eDVals (j : Nat) : Ef := fun e => (gDVals (e.getD j .none)).bind fun d => some (d, e)
section
variable {ι : Type} {Xf : ι → Cx} {P : Program} {w : World} {K : PySem.W.Frag} {mg : Str → Option Value} {base : Heap} {n : Nat} [F : Fam Xf P w K mg base n]
variable {m m1 m2 m3 : List Ty} {pos p p2 apos cpos xp : Pos} {a b c : Expr} {f g h : Ef}
end
end DL
namespace DL
open PySem L2 PySem.Spec
def SubT (tw tb : CT) : Prop := ∀ p ∈ tw, tb.lookup p.1 = some p.2
theorem lookup_mem {c : Str} {l : List Str} : ∀ {tw : CT}, tw.lookup c = some l → (c, l) ∈ tw
  | [], h => by cases h
  | (a, k) :: tw, h => by
    rw [List.lookup_cons] at h
    by_cases e : c = a
    · subst e
      simp at h
      subst h
      exact List.mem_cons_self ..
    · rw [show (c == a) = false from by simpa using e] at h
      exact List.mem_cons_of_mem _ (lookup_mem h)
theorem SubT.look {tw tb : CT} (h : SubT tw tb) {c : Str} {l : List Str} (e : tw.lookup c = some l) : tb.lookup c = some l := h _ (lookup_mem e)
def sAsgE (tw : CT) (j : Nat) (f : Ef) : Sf := fun e => (f e).bind fun p => (gIsOk tw p.1).bind fun w => (asB w).bind fun b => if b = true then (gUn p.1).bind fun d => some (.nx, p.2.set j d) else some (.rt p.1, p.2)
def sDropE (tw : CT) (f : Ef) : Sf := fun e => (f e).bind fun p => (gIsOk tw p.1).bind fun w => (asB w).bind fun b => if b = true then some (.nx, p.2) else some (.rt p.1, p.2)
def sRetE (tw : CT) (f : Ef) : Sf := fun e => (f e).bind fun p => (gIsOk tw p.1).bind fun _ => some (.rt p.1, p.2)
def tryR (tb : CT) (j : Nat) (fs : Sf) : Out × En → Option (Out × En)
  | (.rt v, e) => (gIsOk tb v).bind fun w => (asB w).bind fun b => if b = true then (gUn v).bind fun d => some (.rt d, e) else fs (e.set j v)
  | (.nx, e) => some (.nx, e)
  | (.bk, e) => some (.bk, e)
  | (.ct, e) => some (.ct, e)
def tryR0 (tb : CT) (fs : Sf) : Out × En → Option (Out × En)
  | (.rt v, e) => (gIsOk tb v).bind fun w => (asB w).bind fun b => if b = true then (gUn v).bind fun d => some (.rt d, e) else fs e
  | (.nx, e) => some (.nx, e)
  | (.bk, e) => some (.bk, e)
  | (.ct, e) => some (.ct, e)
def sTryB (tb : CT) (j : Nat) (fb fs : Sf) : Sf := fun e => (fb e).bind (tryR tb j fs)
def sTryC (tb : CT) (fb fs : Sf) : Sf := fun e => (fb e).bind (tryR0 tb fs)
theorem dec_in {tw tb : CT} (s : SubT tw tb) {c : Str} {vs : List PyData} {l : List Str} (h : tw.lookup c = some l) (hl : l.length = vs.length) : decR tb (.tuple (.str c :: vs)) = some (.ex c (l.zip vs)) := decR_ex (s.look h) hl
section
variable {tw tG tb : CT} {j : Nat} {Fn : DFn} {fr : Lf}
theorem call_dec {e e9 : En} {v : PyData} {r : Res} (h : eCall Fn fr e = some (v, e9)) (hr : decR tG v = some r) : xCall (decF tG Fn) fr e = some (r, e9) := by
  unfold eCall at h
  obtain ⟨⟨ds, e2⟩, k1, k2⟩ := oBs h
  obtain ⟨⟨v1, fs1⟩, k3, k4⟩ := oBs k2
  injection k4 with k4
  injection k4 with k4 k5
  subst k4 k5
  unfold xCall decF
  rw [k1, Option.bind_some]
  show (((Fn ds).bind fun q => decR tG q.1).bind fun q => some (q, e2)) = _
  rw [k3, Option.bind_some]
  show ((decR tG v1).bind fun q => some (q, e2)) = _
  rw [hr]; rfl
theorem rel_asg (sG : SubT tw tG) (sb : SubT tw tb) (e : En) (r : OutX × En) (h : decX tb (sAsgE tw j (eCall Fn fr)) e = some r) : xAsgX j (xCall (decF tG Fn) fr) e = some r := by
  obtain ⟨⟨o, e1⟩, h1, h2⟩ := oBs h
  obtain ⟨⟨v, ex⟩, h3, h4⟩ := oBs h1
  obtain ⟨w, h5, h6⟩ := oBs h4
  obtain ⟨b, h7, h8⟩ := oBs h6
  rcases isOk_of h5 with ⟨d, hv, rfl⟩ | ⟨c, vs, l, hv, hl1, hl2, rfl⟩
  · have hv : v = .list [d] := hv
    subst hv
    cases h7
    rw [if_pos rfl] at h8
    cases h8
    cases h2
    unfold xAsgX
    rw [call_dec (r := .ok d) h3 rfl]; rfl
  · have hv : v = .tuple (.str c :: vs) := hv
    subst hv
    cases h7
    rw [if_neg (by simp)] at h8
    cases h8
    obtain ⟨r1, h9, h10⟩ := oBs h2
    rw [dec_in sb hl1 hl2] at h9
    cases h9
    cases h10
    unfold xAsgX
    rw [call_dec h3 (dec_in sG hl1 hl2)]; rfl
end
section
variable {K : PySem.W.Frag} {mg : Str → Option Value} {M : Mk} {G H G1 H1 : Hp} {m m1 m2 mn mx ml : List Ty} {W : WX} {σ σ1 : St} {e : En} {A A1 : List Addr} {D : Ends} {e' : En} {t u : TS} {f : Sf} {gf : Gf} {lf : Lf} {tb : CT}
theorem DSX.lex {fx : SfX} (h : DSX K mg M m1 W m t fx mn) (l : LeM m1 mx) : DSX K mg M mx W m t fx mn := by
  intro G H σ e A o e' D st hf k
  refine h st hf ?_
  match o, k with
  | .o x, k => exact k
  | .ex c fs, k =>
    intro G' H' σ' A' cls dx s' st' p' ex
    obtain ⟨G2, A2, s2, st2⟩ := stt_le l st'
    exact k G2 H' σ' A2 cls dx (s'.seq0 s2) st2 p' (ex.mono s2.sg)
theorem DSX.for {wk : Bool} {wi : L2.TI} {tg : TG} {sl : List Nat} (hi : DI K wk m wi lf m1) (l1 : LeM m1 ml) (hg : DG K wk ml tg sl gf m2) (hb : DSX K mg { M with b := mn, c := ml } mx W m2 t (decX tb f) ml) (l2 : LeM ml mn) (hp : ∀ j ∈ M.po, j ∉ sl) :
    DSX K mg M mx W m (tFor wi tg t) (decX tb (sFor lf gf f)) mn := by
  intro G H σ e A oX e' D st hf0 k
  obtain ⟨⟨o, e9⟩, hf, hdec⟩ := oBs hf0
  obtain ⟨⟨ds, e1⟩, hf1, hf⟩ := oBs hf
  refine hi st hf1 fun G1 H1 A1 J s1 st1 wk hz => ?_
  obtain ⟨G2, A2, s2, st2⟩ := stt_le l1 st1
  let T := fun (i : Nat) (σc : St) (Hc : Hp) => ∃ Gc ec A', Step A G H A' Gc Hc ∧ Same G1 Gc ∧ Stt K ml Gc Hc σc ec A' ∧ Pin M.po σ σc ∧ forL gf f (ds.drop i) ec = some (o, e9)
  refine ⟨fun i mm σc Hc => mm = ds.length - i ∧ i ≤ ds.length ∧ T i σc Hc, ⟨ds.length, by omega, Nat.zero_le _, G2, e1, A2, s1.seq0 s2, s2.sg, st2, Pin.refl, hf⟩, ?_⟩
  rintro i mm σc Hc ⟨rfl, hle, Gc, ec, A', sc, sg, stc, pc, hl⟩
  have sub1 : Same G1 Hc := sg.trans stc.sub
  by_cases hi : i < ds.length
  · refine .inr ⟨wk.goes i Hc hi sub1, fun σn Hn => i < ds.length ∧ T (i + 1) σn Hn, fun σn Hn hn => ⟨ds.length - (i + 1), by omega, rfl, by omega, hn.2⟩, fun x Hy hy => ?_⟩
    obtain ⟨Gy, sy, sty, sgy, qy⟩ := wk.yields hi sg stc hy
    have hd : ds.drop i = ds[i] :: ds.drop (i + 1) := List.drop_eq_getElem_cons hi
    rw [hd] at hl
    unfold forL at hl
    obtain ⟨e2, hl1, hl⟩ := oBs hl
    obtain ⟨⟨o3, e3⟩, hl2, hl⟩ := oBs hl
    refine hg sty (qy _ (List.getElem?_eq_getElem hi)) hl1 fun G3 H3 σ3 A3 s3 st3 k3 l3 => ?_
    have p3 : Pin M.po σ σ3 := pc.trans fun j hj => k3 j (hp j hj)
    have s03 := (sc.seq0 sy).seq0 s3
    cases o3 with
    | nx =>
      refine hb (o := .o .nx) (e' := e3) st3 (by unfold decX; rw [hl2]; rfl) ?_
      exact fun G4 H4 σ4 A4 s4 st4 p4 => ⟨hi, G4, e3, A4, s03.seq0 s4, ((sg.trans sgy).trans s3.sg).trans s4.sg, st4, p3.trans p4, hl⟩
    | ct =>
      refine hb (o := .o .ct) (e' := e3) st3 (by unfold decX; rw [hl2]; rfl) ?_
      exact fun G4 H4 σ4 A4 s4 st4 p4 => ⟨hi, G4, e3, A4, s03.seq0 s4, ((sg.trans sgy).trans s3.sg).trans s4.sg, st4, p3.trans p4, hl⟩
    | bk =>
      cases hl
      cases hdec
      refine hb (o := .o .bk) st3 (by unfold decX; rw [hl2]; rfl) ?_
      exact fun G4 H4 σ4 A4 s4 st4 p4 => k G4 H4 σ4 A4 (s03.seq0 s4) st4 (p3.trans p4)
    | rt r =>
      cases hl
      obtain ⟨r1, h9, h10⟩ := oBs hdec
      cases r1 with
      | ok d =>
        cases h10
        refine hb (o := .o (.rt d)) st3 (by unfold decX; rw [hl2]; show ((decR tb r).bind _ : Option (OutX × En)) = _; rw [h9]; rfl) ?_
        exact fun G4 H4 σ4 v Av A4 s4 st4 o4 nd4 p4 => k G4 H4 σ4 v Av A4 (s03.seq0 s4) st4 o4 nd4 (p3.trans p4)
      | ex c fs =>
        cases h10
        refine hb (o := .ex c fs) st3 (by unfold decX; rw [hl2]; show ((decR tb r).bind _ : Option (OutX × En)) = _; rw [h9]; rfl) ?_
        exact fun G4 H4 σ4 A4 cls dx s4 st4 p4 ex => k G4 H4 σ4 A4 cls dx (s03.seq0 s4) st4 (p3.trans p4) ex
  · have hie : i = ds.length := by omega
    subst hie
    rw [List.drop_length] at hl
    cases hl
    cases hdec
    obtain ⟨G4, A4, s4, st4⟩ := stt_le l2 stc
    exact .inl ⟨wk.stops Hc sub1, k G4 Hc σc A4 (sc.seq0 s4) st4 pc⟩
theorem DSX.post {js jr : List Nat} (h : DSX K mg M mx W m t (decX tb f) mn) (o1 : fgOk js mn = true) (o2 : fgOk js M.b = true) (o3 : fgOk js M.c = true) (o4 : fgOk jr M.r = true) (o5 : fgOk jr mx = true) : DSX K mg M mx W m t (decX tb (sPost js jr f)) mn := by
  intro G H σ e A o e' D st hf k
  obtain ⟨⟨oo, ee⟩, hf1, hf⟩ := oBs hf
  obtain ⟨⟨o0, e0⟩, hf2, hf3⟩ := oBs hf1
  simp only [Option.some.injEq, Prod.mk.injEq] at hf3
  obtain ⟨rfl, rfl⟩ := hf3
  cases o0 with
  | nx =>
    cases hf
    refine h (o := .o .nx) (e' := e0) st (by unfold decX; rw [hf2]; rfl) ?_
    exact fun G' H' σ' A' s' st' p' => k G' H' σ' A' s' (stt_fg o1 st') p'
  | bk =>
    cases hf
    refine h (o := .o .bk) (e' := e0) st (by unfold decX; rw [hf2]; rfl) ?_
    exact fun G' H' σ' A' s' st' p' => k G' H' σ' A' s' (stt_fg o2 st') p'
  | ct =>
    cases hf
    refine h (o := .o .ct) (e' := e0) st (by unfold decX; rw [hf2]; rfl) ?_
    exact fun G' H' σ' A' s' st' p' => k G' H' σ' A' s' (stt_fg o3 st') p'
  | rt r =>
    obtain ⟨r1, h9, h10⟩ := oBs hf
    cases r1 with
    | ok d =>
      cases h10
      refine h (o := .o (.rt d)) (e' := e0) st (by unfold decX; rw [hf2]; show ((decR tb r).bind _ : Option (OutX × En)) = _; rw [h9]; rfl) ?_
      exact fun G' H' σ' v Av A' s' st' ov nd p' => k G' H' σ' v Av A' s' (stt_fg o4 st') ov nd p'
    | ex c fs =>
      cases h10
      refine h (o := .ex c fs) (e' := e0) st (by unfold decX; rw [hf2]; show ((decR tb r).bind _ : Option (OutX × En)) = _; rw [h9]; rfl) ?_
      exact fun G' H' σ' A' cls dx s' st' p' ex => k G' H' σ' A' cls dx s' (stt_fg o5 st') p' ex
end
section
variable {ι : Type} {Xf : ι → Cx} {W : WX} {P : Program} {w : World} {K : PySem.W.Frag} {mg : Str → Option Value} {base : Heap} {n : Nat} [F : Fam Xf P w K mg base n]
variable {M : Mk} {m m1 m2 mn mx ml : List Ty} {pos p p2 p3 cp spos np np2 pos' : Pos} {c v a tg iter : Expr} {es : List Expr} {st : Stmt} {rest body orelse suite : List Stmt} {b₀ : Stmt} {f g fb fs : Sf} {gf : Gf} {lf : Lf} {fx gx : SfX} {bf : Bf} {ef : Ef} {fr : Lf} {tys : List Ty} {L : List (Option Nat)} {tb tw tG : CT} {rty ty : Ty} {Fn : DFn} {sl : List Nat}
theorem sx_lex (h : PSX Xf W K mg M m1 m st fx mn) (l : LeM m1 mx) : PSX Xf W K mg M mx m st fx mn := by
  obtain ⟨t, p, d⟩ := h.ex
  exact ⟨t, p, d.lex l⟩
include F in
theorem ex_asgE [FG : FamG Xf] [FT : FamT Xf W] {k : Nat} {x y : Str} (j : Nat) (c : CalX P w K mg base k x tys rty (decF tG Fn)) (sG : SubT tw tG) (sb : SubT tw tb) (ha : PAL Xf K m (a :: es) tys L fr m1) (lx : LeM m1 mx)
    (hst : ∀ t ∈ tys, stb t = true := by decide) (hk : k ≤ n := by decide) (hg : ∀ i, Gl (Xf i) x := by intro _; rfl)
    (hdb : (x == ("__debug__" : Str)) = false := by decide) (he : ∀ i, starEach (a :: es) (Xf i).env = (false, eval a (Xf i).env) :: starEach es (Xf i).env := by intro _; rfl) (hpl : ∀ i, (backTo cp (starEach es (Xf i).env)).any (·.1) = false := by intro _; rfl)
    (hj : j < m1.length := by first | decide | rfl | simp) (hp : j ∉ M.po := by first | decide | rfl | simp) (hi : ∀ i, (Xf i).N[j]? = some y := by intro _; rfl) (hx : ∀ i, Loc (Xf i).env.scope y := by first | (intro _; exact Or.inl rfl) | (intro _; exact Or.inr rfl))
    (hs : ∀ i, swapsWith (.Call (.Name x p3) (a :: es) [] cp) (some (.Name y np)) p2.line (Xf i).env = pure false := by intro _; rfl) (hf : ∀ i, (Xf i).fn y = true ∨ (Xf i).env.scope.names.lookup y = some .local := by first | (intro _; exact Or.inl rfl) | (intro _; exact Or.inr rfl)) :
    PSX Xf W K mg M mx m (.Assign [.Name y np] (.Call (.Name x p3) (a :: es) [] cp) p2) (decX tb (sAsgE tw j (eCall Fn fr))) (m1.set j rty) :=
  sx_mono (sx_lex (sx_asg j (px_call c ha hst hk hg hdb he hpl) hj hp hi hx hs hf) lx) (rel_asg sG sb)
include F in
theorem ex_for [FG : FamG Xf] {wk : Bool} [FN : FamN Xf] (ml : List Ty) (hi : PIt Xf K wk m tg iter lf m1) (l1 : LeM m1 ml) (hg : PGD Xf K wk ml tg sl gf m2) (hb : PSXs Xf W K mg { M with b := mn, c := ml } mx m2 body (decX tb f) ml) (l2 : LeM ml mn) (hp : ∀ j ∈ M.po, j ∉ sl := by first | decide | rfl | simp)
    (hs : ∀ i x, foldedSetIterable iter (Xf i).env x = pure x := by intro _ _; rfl) : PSX Xf W K mg M mx m (.For tg iter body [] pos) (decX tb (sFor lf gf f)) mn := by
  obtain ⟨wi, pi, di⟩ := hi.ex
  obtain ⟨g, pg, dg⟩ := hg.ex
  obtain ⟨t, p, d⟩ := hb.ex
  exact ⟨_, fun i => ps_for (FN.ps i) (FG.calm i) (pi i) (pg i) (p i) (hs i), DSX.for di l1 dg d l2 hp⟩
theorem exs_post (js jr : List Nat) (h : PSXs Xf W K mg M mx m body (decX tb f) mn) (o1 : fgOk js mn = true := by first | decide | rfl | simp) (o2 : fgOk js M.b = true := by first | decide | rfl | simp) (o3 : fgOk js M.c = true := by first | decide | rfl | simp) (o4 : fgOk jr M.r = true := by first | decide | rfl | simp) (o5 : fgOk jr mx = true := by first | decide | rfl | simp) : PSXs Xf W K mg M mx m body (decX tb (sPost js jr f)) mn := by
  obtain ⟨t, p, d⟩ := h.ex
  exact ⟨t, p, d.post o1 o2 o3 o4 o5⟩
end
section
variable {ι : Type} {Xf : ι → Cx} {P : Program} {w : World} {K : PySem.W.Frag} {mg : Str → Option Value} {base : Heap} {n : Nat} [F : Fam Xf P w K mg base n]
variable {M : Mk} {m mn mx : List Ty} {pos pos' np2 : Pos} {x nm : Str} {cx : Value} {body suite : List Stmt} {b₀ : Stmt} {fb fs : Sf}
end
end DL
namespace DL
end DL
namespace DL
open PySem L2 PySem.Spec
def flatD : List PyData → Option (List PyData)
  | [] => some []
  | d :: ds => (seqD d).bind fun xs => (flatD ds).bind fun ys => some (xs ++ ys)
def gFlat (d : PyData) : Option PyData := (seqD d).bind fun ds => (flatD ds).bind fun ys => if ys.length ≤ sizeLine then some (.list ys) else none
theorem flat_snoc : ∀ {ds : List PyData} {d : PyData} {ys xs : List PyData}, flatD ds = some ys → seqD d = some xs → flatD (ds ++ [d]) = some (ys ++ xs)
  | [], d, ys, xs, h, h2 => by
    cases h
    show (seqD d).bind _ = _
    rw [h2]
    show some (xs ++ []) = some ([] ++ xs)
    rw [List.append_nil, List.nil_append]
  | c :: ds, d, ys, xs, h, h2 => by
    obtain ⟨cs, h3, h4⟩ := oBs h
    obtain ⟨zs, h5, h6⟩ := oBs h4
    cases h6
    have := flat_snoc h5 h2
    show (seqD c).bind _ = _
    rw [h3, Option.bind_some]
    show (flatD (ds ++ [d])).bind _ = _
    rw [this, Option.bind_some, List.append_assoc]
theorem flat_some : ∀ {ds ys : List PyData} {i : Nat}, flatD ds = some ys → i < ds.length → ∃ xs, seqD (ds[i]?.getD .none) = some xs
  | d :: ds, ys, 0, h, _ => by
    obtain ⟨cs, h3, _⟩ := oBs h
    exact ⟨cs, h3⟩
  | d :: ds, ys, i + 1, h, hi => by
    obtain ⟨cs, h3, h4⟩ := oBs h
    obtain ⟨zs, h5, _⟩ := oBs h4
    have := flat_some h5 (show i < ds.length by simpa using hi)
    simpa using this
theorem flat_cut : ∀ {ds ys : List PyData} (i : Nat), flatD ds = some ys → ∃ zs, flatD (ds.take i) = some zs ∧ zs.length ≤ ys.length
  | ds, ys, 0, h => ⟨[], rfl, Nat.zero_le _⟩
  | [], ys, i + 1, h => ⟨ys, h, Nat.le_refl _⟩
  | d :: ds, ys, i + 1, h => by
    obtain ⟨cs, h3, h4⟩ := oBs h
    obtain ⟨zs, h5, h6⟩ := oBs h4
    cases h6
    obtain ⟨ws, h7, h8⟩ := flat_cut i h5
    refine ⟨cs ++ ws, ?_, by simp only [List.length_append]; omega⟩
    show (seqD d).bind _ = _
    rw [h3, Option.bind_some]
    show (flatD (ds.take i)).bind _ = _
    rw [h7]; rfl
def Agr (vs : List Nat) (a b : En) : Prop := a.length = b.length ∧ ∀ k, k ∉ vs → a[k]? = b[k]?
theorem Agr.set {vs : List Nat} {a b : En} {v : Nat} {d : PyData} (h : Agr vs a b) (hv : v ∈ vs) : Agr vs (a.set v d) b :=
  ⟨by rw [List.length_set]; exact h.1, fun k hk => by rw [List.getElem?_set_ne fun z => hk (by rw [← z]; exact hv)]; exact h.2 k hk⟩
theorem Agr.rest {vs : List Nat} {a b : En} (h : Agr vs a b) : restE b a vs = b := by
  induction vs generalizing a with
  | nil => exact List.ext_getElem? fun k => h.2 k (by simp)
  | cons v vs ih =>
    unfold restE
    refine ih ⟨by rw [List.length_set]; exact h.1, fun k hk => ?_⟩
    by_cases c : v = k
    · subst c
      rw [List.getElem?_set]
      by_cases l : v < a.length
      · rw [if_pos rfl, if_pos l, List.getD_eq_getElem?_getD, List.getElem?_eq_getElem (by rw [← h.1]; exact l)]; rfl
      · rw [if_pos rfl, if_neg l, List.getElem?_eq_none (by rw [← h.1]; omega)]
    · rw [List.getElem?_set_ne c]
      exact h.2 k fun z => by
        rcases List.mem_cons.mp z with z | z
        · exact c z.symm
        · exact hk z
section
variable {K : PySem.W.Frag} {G H : Hp} {m m1 m2 : List Ty}
theorem rest_next {vs : List Nat} {σ σ3 : St} {ec e5 : En} {A5 : List Addr} (le : LeM m2 (hideM m1 vs)) (us : usB m1 vs = true) (ws : wipe σ3 vs = wipe σ vs) (st5 : Stt K m2 G H σ3 e5 A5) :
    ∃ G6 A6, Step A5 G H A6 G6 H ∧ Stt K (hideM m1 vs) G6 H (wipe σ vs) (restE ec e5 vs) A6 := by
  obtain ⟨G6, A6, s6, st6⟩ := stt_le le st5
  refine ⟨G6, A6, s6, ⟨?_, st6.nd, st6.sub⟩⟩
  have hidem : ∀ (us : List Nat) (e' : En) (σ' : St) {A : List Addr} {H : Hp} {G : Hp} {mm : List Ty}, OwnA K G H mm e' σ' A → (∀ v ∈ us, mm[v]? = some .u) → OwnA K G H mm (restE ec e' us) (wipe σ' us) A := by
    intro us
    induction us with
    | nil => intro e' σ' A H G mm h _; exact h
    | cons v us ih =>
      intro e' σ' A H G mm h hu
      unfold restE wipe
      have hv := hu v (List.mem_cons_self ..)
      have a := ownA_set0 (t := .u) (d := ec.getD v .none) (v := none) h (.inl hv) (.u _ _)
      rw [set_id hv] at a
      have b := ih _ _ a fun x hx => hu x (List.mem_cons_of_mem _ hx)
      have c : wipe (σ'.set v none) us = (wipe σ' us).set v none := by
        clear ih a b hv hu h
        induction us with
        | nil => rfl
        | cons u us ihu =>
          unfold wipe
          rw [ihu]
          by_cases q : u = v
          · subst q; rfl
          · rw [List.set_comm _ _ (fun z => q z.symm)]
      rw [c] at b; exact b
  have hu : ∀ v ∈ vs, (hideM m1 vs)[v]? = some .u := by
    have aux : ∀ us : List Nat, usB m1 us = true → ∀ v ∈ us, (hideM m1 us)[v]? = some .u := by
      intro us
      induction us with
      | nil => intro _ v h; cases h
      | cons u us ih =>
        intro hus v hv
        obtain ⟨h1, h2, h3⟩ := us_cons hus
        unfold hideM
        by_cases q : u = v
        · subst q
          have : u < (hideM m1 us).length := by
            rw [← hideM_get (m := m1) h2] at h1
            rcases h1 with z | z <;> exact (List.getElem?_eq_some_iff.mp z).1
          simp [this]
        · rw [List.getElem?_set_ne q]
          rcases List.mem_cons.mp hv with z | z
          · exact absurd z.symm q
          · exact ih h3 v z
    exact aux vs us
  have := hidem vs e5 σ3 st6.own hu
  rw [ws] at this
  exact this
end
theorem Agr.rest2 {vs ws : List Nat} {a b c : En} (h : Agr ws a c) (hb : Agr ws b c) (sub : ∀ v ∈ vs, v ∈ ws) : Agr ws (restE b a vs) c := by
  induction vs generalizing a with
  | nil => exact h
  | cons v vs ih => exact ih (h.set (sub v (List.mem_cons_self ..))) fun x hx => sub x (List.mem_cons_of_mem _ hx)
theorem DE.flat {K : PySem.W.Frag} {m m1 : List Ty} {wk : Bool} {wi wi1 : L2.TI} {g g1 : TG} {tt tt1 : TT} {te : TE} {f : Ef} {j0 j1 : Nat} {ml mi : List Ty} (hi : DI K wk m wi (iSeq f) m1)
    (hm2 : hideM m1 [j0, j1] = ml) (hg : DG K wk ml g [j0] (gNm j0) (ml.set j0 .s)) (ht : DT K (ml.set j0 .s) tt bYes (ml.set j0 .s)) (hi1 : DI K false (ml.set j0 .s) wi1 (iSeq (eVar j0)) (ml.set j0 .s))
    (hmi : hideM (ml.set j0 .s) [j1] = mi) (hg1 : DG K false mi g1 [j1] (gNm j1) (mi.set j1 .s)) (ht1 : DT K (mi.set j1 .s) tt1 bYes (mi.set j1 .s)) (he : DE K (mi.set j1 .s) te .s (eVar j1) (mi.set j1 .s))
    (us : usB m1 [j0, j1] = true) (us1 : usB (ml.set j0 .s) [j1] = true) (l1 : LeM (mi.set j1 .s) (hideM (ml.set j0 .s) [j1])) (l0 : LeM mi (hideM m1 [j0, j1])) (hj0 : j0 < m1.length) (hj1 : j1 < m1.length) :
    DE K m (tLc2 wi g tt wi1 g1 tt1 te [j0, j1] [j1]) (.l .s) (e1 gFlat f) m1 := by
  intro G H σ e A d e' Q st hf k
  unfold e1 at hf
  obtain ⟨⟨d1, e1⟩, hf1, hf⟩ := oBs hf
  obtain ⟨r0, hf2, hf⟩ := oBs hf
  cases hf
  unfold gFlat at hf2
  obtain ⟨ds, hds, hf2⟩ := oBs hf2
  obtain ⟨ys, hys, hf2⟩ := oBs hf2
  obtain ⟨hyl, rfl⟩ := ite_some hf2
  refine hi st (show iSeq f e = some (ds, e1) by unfold iSeq; rw [hf1]; show (seqD d1).bind _ = _; rw [hds]; rfl) fun G1 H1 A1 J s1 st1 wkJ hz => ?_
  intro D hD
  have st1' : Stt K (hideM m1 [j0, j1]) G1 H1 (wipe σ [j0, j1]) e1 A1 := ⟨wipeA st1.own us, st1.nd, st1.sub⟩
  obtain ⟨s2, st2, nd2, gD⟩ := new_o (o := .lst []) (B := []) st1' hD
  have len1 : e1.length = m1.length := (ownA_len st1.own).1.symm
  let T := fun (i : Nat) (Hc : Hp) => ∃ Gc ec A' acc da, LcI K (hideM m1 [j0, j1]) .s A1 G1 H1 D (wipe σ [j0, j1]) Gc Hc ec A' [] acc da ∧ flatD (ds.take i) = some da ∧ Agr [j0, j1] ec e1
  refine ⟨fun i mm Hc => mm = ds.length - i ∧ i ≤ ds.length ∧ T i Hc, ⟨ds.length, by omega, Nat.zero_le _, G1, e1, A1, [], [], ⟨s2, st2, upd_same, gD, .nil, nd2⟩, rfl, rfl, fun k _ => rfl⟩, ?_⟩
  rintro i mm Hc ⟨rfl, hle, Gc, ec, A', acc, da, I, hda, agr⟩
  have sub1 : Same G1 Hc := I.step.sg.trans I.st.sub
  by_cases hi' : i < ds.length
  · refine .inr ⟨wkJ.goes i Hc hi' sub1, fun Hn => i < ds.length ∧ T (i + 1) Hn, fun Hn hn => ⟨ds.length - (i + 1), by omega, rfl, by omega, hn.2⟩, fun x Hy hy => ?_⟩
    obtain ⟨Gy, sy, sty, sgy, qy⟩ := wkJ.yields hi' I.step.sg I.st hy
    have sty' : Stt K ml Gy Hy (wipe σ [j0, j1]) ec A' := by rw [← hm2]; exact sty
    obtain ⟨xs, hxs⟩ := flat_some hys hi'
    rw [List.getElem?_eq_getElem hi'] at hxs
    have hxs : seqD ds[i] = some xs := hxs
    refine hg sty' (qy _ (List.getElem?_eq_getElem hi')) rfl fun G3 H3 σ3 A3 s3 st3 k3 l3 => ⟨wipe_eq (fun j hj => by simp at hj; simp [hj]) k3 l3, ?_⟩
    have wσ : wipe σ3 [j0, j1] = wipe σ [j0, j1] := wipe_eq (fun j hj => by simp at hj; simp [hj]) k3 l3
    refine ht st3 rfl fun G4 H4 A4 s4 st4 => ?_
    rw [if_pos rfl]
    have lec : j0 < ec.length := by rw [agr.1, len1]; exact hj0
    have hv : iSeq (eVar j0) (ec.set j0 ds[i]) = some (xs, ec.set j0 ds[i]) := by
      show ((some ((ec.set j0 ds[i]).getD j0 .none, ec.set j0 ds[i])).bind fun p => (seqD p.1).bind fun l => some (l, p.2)) = _
      rw [Option.bind_some, List.getD_eq_getElem?_getD, List.getElem?_set_self lec]
      show (seqD ds[i]).bind _ = _
      rw [hxs]; rfl
    refine hi1 st4 hv fun G5 H5 A5 J1 s5 st5 wk1 hz1 => ?_
    have s35 := ((sy.seq0 s3).seq0 s4).seq0 s5
    obtain ⟨s6, nd6, atD6, gD6, own6⟩ := I.move s35 st5.nd
    have st6 : Stt K (hideM (ml.set j0 .s) [j1]) G5 H5 (wipe σ3 [j1]) (ec.set j0 ds[i]) A5 := ⟨wipeA st5.own us1, st5.nd, st5.sub⟩
    have agr0 : Agr [j0, j1] (ec.set j0 ds[i]) e1 := agr.set (by simp)
    have snoc := flat_snoc hda hxs
    rw [← List.take_succ_eq_append_getElem hi'] at snoc
    have cut := flat_cut (i + 1) hys
    rw [snoc] at cut
    obtain ⟨zs, hzs, hzl⟩ := cut
    cases hzs
    rw [List.length_append] at hzl
    let T1 := fun (j : Nat) (Hc : Hp) => ∃ Gc ec1 A' acc1, LcI K (hideM (ml.set j0 .s) [j1]) .s A1 G1 H1 D (wipe σ3 [j1]) Gc Hc ec1 A' [] acc1 (da ++ xs.take j) ∧ Agr [j0, j1] ec1 e1 ∧ Same G5 Gc
    refine ⟨fun j kk Hc => kk = xs.length - j ∧ j ≤ xs.length ∧ T1 j Hc, ⟨xs.length, by omega, Nat.zero_le _, G5, ec.set j0 ds[i], A5, acc, ⟨s6, st6, atD6, gD6, by rw [List.take_zero, List.append_nil]; exact own6, nd6⟩, agr0, Same.refl _⟩, ?_⟩
    rintro j kk Hc1 ⟨rfl, hle1, Gc1, ec1, A'1, acc1, I1, agr1, sg1⟩
    by_cases hj : j < xs.length
    · refine .inr ⟨wk1.goes j Hc1 hj (sg1.trans I1.st.sub), fun Hn => j < xs.length ∧ T1 (j + 1) Hn, fun Hn hn => ⟨xs.length - (j + 1), by omega, rfl, by omega, hn.2⟩, fun y Hy1 hy1 => ?_⟩
      obtain ⟨Gy1, sy1, sty1, sgy1, qy1⟩ := wk1.yields hj sg1 I1.st hy1
      have sty1' : Stt K mi Gy1 Hy1 (wipe σ3 [j1]) ec1 A'1 := by rw [← hmi]; exact sty1
      refine hg1 sty1' (qy1 _ (List.getElem?_eq_getElem hj)) rfl fun G7 H7 σ7 A7 s7 st7 k7 l7 => ⟨wipe_eq (fun j hj => hj) k7 l7, ?_⟩
      have wσ7 : wipe σ7 [j1] = wipe σ3 [j1] := wipe_eq (fun j hj => hj) k7 l7
      refine ht1 st7 rfl fun G8 H8 A8 s8 st8 => ?_
      rw [if_pos rfl]
      have lec1 : j1 < ec1.length := by rw [agr1.1, len1]; exact hj1
      have hv1 : eVar j1 (ec1.set j1 xs[j]) = some (xs[j], ec1.set j1 xs[j]) := by
        show some ((ec1.set j1 xs[j]).getD j1 .none, ec1.set j1 xs[j]) = _
        rw [List.getD_eq_getElem?_getD, List.getElem?_set_self lec1]; rfl
      refine he st8 hv1 fun G9 H9 v Av A9 s9 st9 o9 nd9 => ?_
      cases o9 with
      | s q9 =>
        obtain ⟨G10, A10, s10, st10⟩ := rest_next (ec := ec1) l1 us1 wσ7 st9
        have s79 := ((sy1.seq0 s7).seq0 s8).seq0 (s9.seq0 s10)
        obtain ⟨sX, ndX, atX, gX, ownX⟩ := I1.move s79 st10.nd
        have hacc : acc1.length = (da ++ xs.take j).length := by have := (ownA_len I1.own).2; simpa using this
        have hz' : acc1.length < sizeLine := by
          rw [hacc, List.length_append, List.length_take]; omega
        refine ⟨acc1, atX, hz', hj, G10, restE ec1 (ec1.set j1 xs[j]) [j1], A10, acc1 ++ [v], ?_, Agr.rest2 (agr1.set (by simp)) agr1 (fun v hv => by simp at hv; simp [hv]), ((sg1.trans sgy1).trans (s7.sg.trans s8.sg)).trans (s9.sg.trans s10.sg)⟩
        have nD : ∀ a ∈ A10, a ≠ D := fun a ha z => (List.nodup_cons.mp ndX).1 (z ▸ ha)
        have frD : ∀ a, a ≠ D → upd H9 D (.lst (acc1 ++ [v])) a = H9 a := fun a ha => upd_ne ha
        refine ⟨⟨sX.sg, fun a o h ha => ?_, sX.own, sX.gnew⟩, ⟨ownA_fr st10.own (Same.refl _) (fun a ha => (ownA_at st10.own a ha).1) fun a ha => frD a (nD a ha), st10.nd, fun b x hx => ?_⟩, upd_same, gX, ?_, ndX⟩
        · rw [frD a (ne_of_none h hD)]; exact sX.fr a o h ha
        · rw [frD b (ne_of_none hx gX)]; exact st10.sub b x hx
        · have a1 : OwnA K G10 (upd H9 D (.lst (acc1 ++ [v]))) (List.replicate (da ++ xs.take j).length .s) (da ++ xs.take j) (acc1.map some) [] := ownA_fr ownX (Same.refl _) (fun a ha => by cases ha) fun a ha => by cases ha
          have a2 : Own K G10 (upd H9 D (.lst (acc1 ++ [v]))) .s xs[j] (some v) [] := .s (q9.mono s10.sg)
          have a3 := ownA_snoc a1 a2
          have eda : da ++ xs.take (j + 1) = (da ++ xs.take j) ++ [xs[j]] := by rw [List.take_succ_eq_append_getElem hj, List.append_assoc]
          rw [eda, List.length_append, List.length_singleton, List.replicate_succ', List.map_append]
          exact a3
    · have hje : j = xs.length := by omega
      subst hje
      refine .inl ⟨wk1.stops Hc1 (sg1.trans I1.st.sub), hi', ?_⟩
      have own1 : Stt K mi Gc1 Hc1 (wipe σ3 [j1]) ec1 A'1 := by rw [← hmi]; exact I1.st
      have ww : wipe (wipe σ3 [j1]) [j0, j1] = wipe σ [j0, j1] := by
        rw [← wσ]
        show (((σ3.set j1 none).set j1 none).set j0 none) = ((σ3.set j1 none).set j0 none)
        rw [List.set_set]
      obtain ⟨G11, A11, s11, st11⟩ := rest_next (ec := ec1) l0 us ww own1
      obtain ⟨sX, ndX, atX, gX, ownX⟩ := I1.move s11 st11.nd
      rw [List.take_length] at ownX
      refine ⟨G11, restE ec1 ec1 [j0, j1], A11, acc1, da ++ xs, ⟨sX, st11, atX, gX, ownX, ndX⟩, snoc, Agr.rest2 agr1 agr1 fun v hv => hv⟩
  · have hie : i = ds.length := by omega
    subst hie
    refine .inl ⟨wkJ.stops Hc sub1, ?_⟩
    rw [List.take_length, hys] at hda
    cases hda
    have un := unwipeA (e' := ec) st1.own I.step.sg us I.st.own
    rw [agr.rest] at un
    refine k Gc Hc (.ref D) [D] A' (s1.seq0 ⟨I.step.sg, I.step.fr, I.step.own, I.step.gnew⟩) ⟨un, I.st.nd, I.st.sub⟩ (.l I.gD I.atD ?_ I.own) I.nd
    have hacc := (ownA_len I.own).2
    rw [List.length_map] at hacc
    omega
section
variable {ι : Type} {Xf : ι → Cx} {P : Program} {w : World} {K : PySem.W.Frag} {mg : Str → Option Value} {base : Heap} {n : Nat} [F : Fam Xf P w K mg base n]
variable {m m1 : List Ty} {pos p0 p1 p2 p3 : Pos} {iter : Expr} {scope : Scope} {f : Ef} {x0 x1 : Str} {j0 j1 : Nat}
end
end DL
namespace DL
open PySem L2 PySem.Spec
def sc1 : PyData → Bool
  | .none => true
  | .bool _ => true
  | .int _ => true
  | .str _ => true
  | _ => false
def flat1 : PyData → Bool
  | .tuple xs => xs.all sc1
  | d => sc1 d
def eThaw (f : Ef) : Ef := fun e => (f e).bind fun p => (grd (flat1 p.1)).bind fun _ => some p
section
variable {f g h : Ef} {fb gb : Bf} {fl gl : Lf} {fo go : Of} {gf : Gf} {gs : Gsf} {vs : List Nat} {fq gq : Gq}
theorem Agr.refl {vs : List Nat} {a : En} : Agr vs a a := ⟨rfl, fun _ _ => rfl⟩
theorem Agr.trans {vs : List Nat} {a b c : En} (h : Agr vs a b) (k : Agr vs b c) : Agr vs a c := ⟨h.1.trans k.1, fun j hj => (h.2 j hj).trans (k.2 j hj)⟩
end
section
variable {K : PySem.W.Frag} {G G' H H' : Hp}
end
def bTrue : Bf := fun e => some (true, e)
end DL
namespace DL
open PySem L2 PySem.Spec
def gAugS (l i y : PyData) : Option PyData := match l, i, y with
  | .list ds, .int k, .int y => (ixN ds.length k).bind fun j => match ds[j]? with
    | some (.int x) => if 0 ≤ k then some (.list (ds.set j (.int (x + y)))) else none
    | _ => none
  | _, _, _ => none
def sAugS (g : Gq) (pt : Pf) (gi gv : Gq) : Sf := fun e => (g e).bind fun d => (gi e).bind fun i => (gv e).bind fun v => (gAugS d i v).bind fun l => some (.nx, pt e l)
section
variable {K : PySem.W.Frag} {G H G1 H1 : Hp} {m m1 m2 mn : List Ty} {σ : St} {e : En} {A A1 : List Addr} {t : Ty} {ts : List Ty} {M : Mk}
end
section
variable {ι : Type} {Xf : ι → Cx} {P : Program} {w : World} {K : PySem.W.Frag} {mg : Str → Option Value} {base : Heap} {n : Nat} [F : Fam Xf P w K mg base n]
variable {M : Mk} {m m1 m2 mn ml : List Ty} {pos p p2 spos apos cpos : Pos} {a b c v o i : Expr} {f : Ef} {g gi gv : Gq} {pt : Pf} {t ty : Ty} {ts : List Ty}
end
end DL
namespace DL
open PySem L2 PySem.Spec
def joinI {α : Type} (more kvs : List (Int × α)) : List (Int × α) := more.foldl (fun acc p => putI acc p.1 p.2) kvs
def yesI {α : Type} (is : List Int) (t : α) : List (Int × α) := is.foldl (fun acc i => putI acc i t) []
def dictI : List (PyData × PyData) → Option (List (Int × PyData))
  | [] => some []
  | (.int i, d) :: r => (dictI r).map ((i, d) :: ·)
  | _ :: _ => none
def gUpdT (d s : PyData) : Option PyData := match d, s with
  | .dict kvs, .tuple xs => (dictI kvs).bind fun ds => (intsOf xs).bind fun is => if kvs.length + is.length < 100000 then some (.dict ((joinI (yesI is (.bool true)) ds).map kvD)) else none
  | _, _ => none
def eUpdT (j : Nat) (f : Ef) : Ef := fun e => (f e).bind fun p => (gUpdT (p.2.getD j .none) p.1).bind fun d => some (.none, p.2.set j d)
section
variable {K : PySem.W.Frag} {G H G1 H1 : Hp} {m m1 m2 mn : List Ty} {σ : St} {e : En} {A A1 : List Addr} {t : Ty} {ts : List Ty}
theorem dqA_intsV {xs : List V} : ∀ {is : List Int}, DqA K G xs (is.map .int) → xs = is.map V.int := fun {is} h => by
  apply List.ext_getElem (by rw [h.1, List.length_map, List.length_map])
  intro i h1 h2
  have h3 : i < is.length := by rw [List.length_map] at h2; exact h2
  have := h.2 i xs[i] (.int is[i]) (List.getElem?_eq_getElem h1) (by rw [List.getElem?_map, List.getElem?_eq_getElem h3]; rfl)
  rw [dq_int this, List.getElem_map]
end
section
variable {ι : Type} {Xf : ι → Cx} {P : Program} {w : World} {K : PySem.W.Frag} {mg : Str → Option Value} {base : Heap} {n : Nat} [F : Fam Xf P w K mg base n]
variable {m m1 m2 m3 : List Ty} {pos p p2 apos cpos xp kp vp tp : Pos} {a b c e : Expr} {f g h : Ef} {scope : Scope} {jn : Option String}
end
end DL
namespace DL
open PySem L2 PySem.Spec
section
variable {K : PySem.W.Frag} {m m1 : List Ty} {M : Mk} {lf : Lf}
end
section
variable {ι : Type} {Xf : ι → Cx} {P : Program} {w : World} {K : PySem.W.Frag} {mg : Str → Option Value} {base : Heap} {n : Nat} [F : Fam Xf P w K mg base n]
variable {M : Mk} {m m1 m2 : List Ty} {pos p p2 apos cpos xp : Pos} {a b c : Expr} {f g h : Ef} {lf : Lf} {t1 t2 : Ty}
end
def eExtV (j l : Nat) : Ef := fun e => (gExt (e.getD j .none) (e.getD l .none)).bind fun d => some (.none, e.set j d)
section
variable {K : PySem.W.Frag} {m : List Ty}
end
section
variable {ι : Type} {Xf : ι → Cx} {P : Program} {w : World} {K : PySem.W.Frag} {mg : Str → Option Value} {base : Heap} {n : Nat} [F : Fam Xf P w K mg base n]
variable {m m1 : List Ty} {pos p p2 apos cpos xp yp : Pos}
end
end DL
namespace DL
open PySem L2 PySem.Spec
abbrev KT3 := List Int × Addr × V
section
variable {X : Cx} {pins : List (Addr × Obj)} {σ : St} {H : Hp} {s : Shared} {a b : Addr} {kvs : List KT3} {k : List Int} {A : Around} {E : Value → Shared → Prop}
end
end DL
namespace DL
open PySem L2 PySem.Spec
section
variable {X : Cx} {o i value : Expr} {td ty tv : TE} {pos pos' : Pos}
end
def isKT (k : List Int) : PyData → Bool
  | .tuple xs => decide (intsOf xs = some k)
  | _ => false
def lookT (kvs : List (PyData × PyData)) (k : List Int) : Option PyData := (kvs.find? fun p => isKT k p.1).map (·.2)
def putTD (kvs : List (PyData × PyData)) (k : List Int) (x : PyData) : List (PyData × PyData) :=
  if (kvs.any fun p => isKT k p.1) = true then kvs.map (fun p => if isKT k p.1 = true then (p.1, x) else p) else kvs ++ [(.tuple (k.map .int), x)]
def gTGet (d k : PyData) : Option PyData := match d, k with
  | .dict kvs, .tuple xs => (intsOf xs).bind fun is => lookT kvs is
  | _, _ => none
def gTIn (n : Bool) (d k : PyData) : Option PyData := match d, k with
  | .dict kvs, .tuple xs => (intsOf xs).bind fun is => some (.bool (n != (lookT kvs is).isSome))
  | _, _ => none
def gTPut (d k x : PyData) : Option PyData := match d, k with
  | .dict kvs, .tuple xs => (intsOf xs).bind fun is => if kvs.length < sizeLine then some (.dict (putTD kvs is x)) else none
  | _, _ => none
section
variable {K : PySem.W.Frag} {G H G1 H1 : Hp} {m m1 m2 mn : List Ty} {σ : St} {e : En} {A A1 : List Addr}
end
def eTGet (j : Nat) (f : Ef) : Ef := fun e => (f e).bind fun p => (gTGet (p.2.getD j .none) p.1).bind fun d => some (d, p.2)
def sTPutD (j : Nat) (fi fv : Ef) : Sf := fun e => (fv e).bind fun p => (fi p.2).bind fun q => (gTPut (q.2.getD j .none) q.1 p.1).bind fun d => some (.nx, q.2.set j d)
section
variable {ι : Type} {Xf : ι → Cx} {P : Program} {w : World} {K : PySem.W.Frag} {mg : Str → Option Value} {base : Heap} {n : Nat} [F : Fam Xf P w K mg base n]
variable {M : Mk} {m m1 m2 m3 : List Ty} {pos p p2 spos pos' apos cpos xp : Pos} {a b c : Expr} {f g h : Ef}
end
end DL
namespace DL
open PySem L2 PySem.Spec
section
variable {ι : Type} {Xf : ι → Cx} {P : Program} {w : World} {K : PySem.W.Frag} {mg : Str → Option Value} {base : Heap} {n : Nat} [F : Fam Xf P w K mg base n]
variable {M : Mk} {m m1 m2 m3 : List Ty} {pos p p2 spos pos' apos cpos xp : Pos} {a b c : Expr} {f g h : Ef}
def gTOne (k v : PyData) : Option PyData := match k with
  | .tuple xs => (intsOf xs).bind fun is => some (.dict [(.tuple (is.map .int), v)])
  | _ => none
def eTOne (f g : Ef) : Ef := fun e => (f e).bind fun p => (g p.2).bind fun q => (gTOne p.1 q.1).bind fun d => some (d, q.2)
def eTInE (ng : Bool) (f g : Ef) : Ef := fun e => (f e).bind fun p => (g p.2).bind fun q => (gTIn ng q.1 p.1).bind fun d => some (d, q.2)
end
end DL
namespace DL
open PySem L2 PySem.Spec
def pairOf : PyData → Option (Int × Int)
  | .tuple [.int x, .int y] => if 0 ≤ x ∧ x < 64 ∧ 0 ≤ y ∧ y < 64 then some (x, y) else none
  | _ => none
def pairsOf : List PyData → Option (List (Int × Int))
  | [] => some []
  | d :: r => (pairOf d).bind fun p => (pairsOf r).map (p :: ·)
def pcode (p : Int × Int) : Int := p.1 * 64 + p.2
def gSortSetP (d : PyData) : Option PyData := match d with
  | .list ds => (pairsOf ds).bind fun ps => if ps.length < 64 then some (.list ((sortSet (ps.map pcode)).map fun c => .tuple [.int (c / 64), .int (c % 64)])) else none
  | _ => none
theorem pairOf_some {d : PyData} {p : Int × Int} (h : pairOf d = some p) : d = .tuple [.int p.1, .int p.2] ∧ 0 ≤ p.1 ∧ p.1 < 64 ∧ 0 ≤ p.2 ∧ p.2 < 64 := by
  unfold pairOf at h
  split at h
  · split at h
    · rename_i hc
      cases h
      exact ⟨rfl, hc⟩
    · cases h
  · cases h
section
variable {K : PySem.W.Frag} {G H : Hp}
theorem keys_of : ∀ {xs : List V} {ds : List PyData} {ps : List (Int × Int)}, pairsOf ds = some ps → DqA K G xs ds →
    ∃ ks : List (Addr × List Int), xs = ks.map (fun p => V.ref p.1) ∧ ks.map (·.2) = ps.map (fun p => [p.1, p.2]) ∧ (∀ p ∈ ks, SqT K G p.1 (p.2.map V.int) ∧ Dq K G (.ref p.1) (.tuple (p.2.map .int))) ∧ ∀ p ∈ ps, 0 ≤ p.1 ∧ p.1 < 64 ∧ 0 ≤ p.2 ∧ p.2 < 64
  | [], [], _, h, _ => by cases h; exact ⟨[], rfl, rfl, fun p hp => (by cases hp), fun p hp => (by cases hp)⟩
  | [], _ :: _, _, _, q => by have := q.1; simp at this
  | _ :: _, [], _, _, q => by have := q.1; simp at this
  | x :: xs, d :: ds, ps, h, q => by
    obtain ⟨p, h1, h⟩ := oBs h
    obtain ⟨r, h2, h⟩ := Option.map_eq_some_iff.mp h
    cases h
    obtain ⟨rfl, b⟩ := pairOf_some h1
    obtain ⟨ks, e1, e2, e3, e4⟩ := keys_of h2 q.tail
    obtain ⟨a, ys, rfl, r1, _, qa⟩ := dq_tup q.head
    have ey : ys = [p.1, p.2].map V.int := dqA_intsV (is := [p.1, p.2]) qa
    refine ⟨(a, [p.1, p.2]) :: ks, by rw [e1]; rfl, by rw [List.map_cons, e2]; rfl, fun k hk => ?_, fun k hk => ?_⟩
    · rcases List.mem_cons.mp hk with rfl | hk
      · exact ⟨by rw [← ey]; exact r1, q.head⟩
      · exact e3 k hk
    · rcases List.mem_cons.mp hk with rfl | hk
      · exact b
      · exact e4 k hk
theorem dqA_refs : ∀ {L : List (Addr × List Int)}, (∀ p ∈ L, Dq K G (.ref p.1) (.tuple (p.2.map .int))) → DqA K G (L.map fun q => V.ref q.1) (L.map fun q => PyData.tuple (q.2.map .int))
  | [], _ => DqA.nil
  | p :: L, h => DqA.cons (h p (List.mem_cons_self ..)) (dqA_refs fun k hk => h k (List.mem_cons_of_mem _ hk))
end
theorem sorted_codes {ks L' : List (Addr × List Int)} {ps : List (Int × Int)} (e2 : ks.map (·.2) = ps.map (fun p => [p.1, p.2])) (bd : ∀ p ∈ ps, 0 ≤ p.1 ∧ p.1 < 64 ∧ 0 ≤ p.2 ∧ p.2 < 64) (sub : ∀ p ∈ L', p ∈ ks) (all : ∀ p ∈ ks, p.2 ∈ L'.map (·.2)) (nd : (L'.map (·.2)).Nodup) (pw : L'.Pairwise fun q r => TS.code 64 q.2 ≤ TS.code 64 r.2) :
    (L'.map fun q => PyData.tuple (q.2.map .int)) = (sortSet (ps.map pcode)).map fun c => .tuple [.int (c / 64), .int (c % 64)] := by
  have shape : ∀ p ∈ ks, ∃ x y, p.2 = [x, y] ∧ (x, y) ∈ ps ∧ 0 ≤ x ∧ x < 64 ∧ 0 ≤ y ∧ y < 64 := fun p hp => by
    have : p.2 ∈ ks.map (·.2) := List.mem_map_of_mem hp
    rw [e2] at this
    obtain ⟨q, hq, e⟩ := List.mem_map.mp this
    exact ⟨q.1, q.2, e.symm, hq, bd q hq⟩
  have cd : ∀ p ∈ L', ∃ x y, p.2 = [x, y] ∧ (x, y) ∈ ps ∧ 0 ≤ x ∧ x < 64 ∧ 0 ≤ y ∧ y < 64 ∧ TS.code 64 p.2 = x * 64 + y := fun p hp => by
    obtain ⟨x, y, e, h1, h2, h3, h4, h5⟩ := shape p (sub p hp)
    exact ⟨x, y, e, h1, h2, h3, h4, h5, by rw [e, code_pair]⟩
  have eq : L'.map (fun q => TS.code 64 q.2) = sortSet (ps.map pcode) := by
    refine rising_one ?_ (sortSet_lt _) fun j => ?_
    · rw [List.pairwise_map]
      have nd' : L'.Pairwise (fun a b => a.2 ≠ b.2) := List.pairwise_map.mp (List.nodup_iff_pairwise_ne.mp nd)
      refine (List.Pairwise.and pw nd').imp_of_mem fun {a c} ha hc h => ?_
      obtain ⟨x, y, e1, _, b1, b2, b3, b4, c1⟩ := cd a ha
      obtain ⟨x', y', e2, _, b5, b6, b7, b8, c2⟩ := cd c hc
      have h1 := h.1
      have h2 := h.2
      rw [c1, c2] at h1 ⊢
      rcases Int.lt_or_eq_of_le h1 with q | q
      · exact q
      · exfalso
        have ex : x = x' := by omega
        have ey : y = y' := by omega
        exact h2 (by rw [e1, e2, ex, ey])
    · rw [List.mem_map, sortSet_mem, List.mem_map]
      constructor
      · rintro ⟨p, hp, rfl⟩
        obtain ⟨x, y, _, h1, _, _, _, _, c1⟩ := cd p hp
        exact ⟨(x, y), h1, c1.symm⟩
      · rintro ⟨q, hq, rfl⟩
        have : [q.1, q.2] ∈ ks.map (·.2) := by rw [e2]; exact List.mem_map.mpr ⟨q, hq, rfl⟩
        obtain ⟨p, hp, e⟩ := List.mem_map.mp this
        obtain ⟨p', hp', e'⟩ := List.mem_map.mp (all p hp)
        exact ⟨p', hp', by rw [e', e, code_pair]; rfl⟩
  rw [← eq, List.map_map]
  refine List.map_congr_left fun p hp => ?_
  obtain ⟨x, y, e, _, b1, b2, b3, b4, c1⟩ := cd p hp
  show PyData.tuple (p.2.map .int) = .tuple [.int (TS.code 64 p.2 / 64), .int (TS.code 64 p.2 % 64)]
  rw [c1, e, show (x * 64 + y) / 64 = x by omega, show (x * 64 + y) % 64 = y by omega]
  rfl
section
variable {ι : Type} {Xf : ι → Cx} {P : Program} {w : World} {K : PySem.W.Frag} {mg : Str → Option Value} {base : Heap} {n : Nat} [F : Fam Xf P w K mg base n]
variable {m m1 : List Ty} {pos pos2 p p2 : Pos} {a : Expr} {f : Ef}
include F in
theorem pd_sortSetP [FG : FamG Xf] (hs : mg "sorted" = none) (vs : bootBuiltins "sorted" = some (.builtin "sorted")) (ht : mg "set" = none) (vt : bootBuiltins "set" = some (.type "set")) (ha : PD Xf K m a .s f m1) (gs : ∀ i, Gl (Xf i) "sorted" := by intro _; rfl) (gt : ∀ i, Gl (Xf i) "set" := by intro _; rfl)
    (he : ∀ i, starEach [a] (Xf i).env = (false, eval a (Xf i).env) :: starEach [] (Xf i).env := by intro _; rfl) (hpl : ∀ i, (backTo pos2 (starEach [] (Xf i).env)).any (·.1) = false := by intro _; rfl)
    (he2 : ∀ i, starEach [.Call (.Name "set" p2) [a] [] pos2] (Xf i).env = (false, eval (.Call (.Name "set" p2) [a] [] pos2) (Xf i).env) :: starEach [] (Xf i).env := by intro _; rfl) (hpl2 : ∀ i, (backTo pos (starEach [] (Xf i).env)).any (·.1) = false := by intro _; rfl) :
    PD Xf K m (.Call (.Name "sorted" p) [.Call (.Name "set" p2) [a] [] pos2] [] pos) (.l .s) (e1 gSortSetP f) m1 := by
  obtain ⟨ta, pa, da⟩ := ha.ex
  have c1 : ∀ i, CallR (Xf i) (.type "set") (rSetOfT K P w) := fun i => by have := cr_setOfT (X := Xf i) (FG.calm i) (by have := (F.room i).un; omega); rwa [F.kk i, F.w_ i, F.prog i] at this
  have c2 : ∀ i, CallR (Xf i) (.builtin "sorted") (rSortedT K P w) := fun i => by have := cr_sortedT (X := Xf i) (FG.calm i); rwa [F.kk i, F.w_ i, F.prog i] at this
  refine ⟨_, fun i => pe_callB (c2 i) (gs i) (by rw [F.mg_ i]; exact hs) vs (pa_cons (pe_callTy (c1 i) (gt i) (by rw [F.mg_ i]; exact ht) vt (pa_cons (pa i) pa_nil (he i)) (by decide) (by decide) (he i) (hpl i)) pa_nil (he2 i)) (by decide) (by decide) (he2 i) (hpl2 i),
    DE.un (r := fun x H Q => rSetOfT K P w [x] H fun y H1 => rSortedT K P w [y] H1 Q) da ?_⟩
  intro m G H σ e A x dx d Q st hx ee k
  cases dx with
  | list ds =>
    obtain ⟨ps, h1, ee⟩ := oBs (show (pairsOf ds).bind _ = _ from ee)
    obtain ⟨hlen, ee⟩ := ite_some2 ee
    cases ee
    obtain ⟨l, xs, rfl, rd, hz, qa⟩ := dq_lst hx
    obtain ⟨ks, rfl, e2, e3, bd⟩ := keys_of h1 qa
    have lk : ks.length = ps.length := by have := congrArg List.length e2; simpa using this
    refine ⟨l, ks, rfl, .inl (same_rd st.sub rd), fun p hp => same_seqT st.sub (e3 p hp).1, by omega, fun q L hq sub all => ?_⟩
    obtain ⟨s1, st1, sg⟩ := new_s (o := SetTO P w q L) st hq
    refine ⟨q, L, 2, 64, rfl, upd_same, fun p hp => same_seqT (sg.trans st1.sub) (e3 p (sub p hp)).1, by omega, fun p hp => ?_, fun L' r pm nd few pw hr => ?_⟩
    · have : p.2 ∈ ks.map (·.2) := List.mem_map_of_mem (sub p hp)
      rw [e2] at this
      obtain ⟨z, hz, e⟩ := List.mem_map.mp this
      have b := bd z hz
      rw [← e]
      refine ⟨rfl, fun m hm => ?_⟩
      rcases List.mem_cons.mp hm with rfl | hm
      · exact ⟨b.1, b.2.1⟩
      · rw [List.mem_singleton.mp hm]; exact b.2.2
    · have sub' : ∀ p ∈ L', p ∈ ks := fun p hp => sub p (pm.mem_iff.mp hp)
      have all' : ∀ p ∈ ks, p.2 ∈ L'.map (·.2) := fun p hp => (pm.map (·.2)).mem_iff.mpr (all p hp)
      rw [← sorted_codes e2 bd sub' all' nd pw] at k
      exact ans_lst st1 (dqA_refs fun p hp => (e3 p (sub' p hp)).2.mono sg) (by rw [List.length_map, sizeLine_eq]; omega) (fun G2 H2 v Av A2 s2 => k G2 H2 v Av A2 (s1.seq0 s2)) r hr
  | _ => cases ee
end
end DL
namespace DL
open PySem L2 PySem.Spec
section
variable {P : Program} {w : World} {A : Around} {E : Value → Shared → Prop} {s : Shared} {a : Addr} {S : Int → Bool} {n : Nat}
end
end DL
namespace DL
open PySem L2 PySem.Spec
section
variable {P : Program} {w : World} {A : Around} {E : Value → Shared → Prop} {s : Shared} {a b : Addr} {S T : Int → Bool} {n m : Nat}
def flipV (a : Addr) (h : Int) (x : Value) : Sem Unit := holding [x] do
  if !(← setDiscardHashed a x h) then
    let _ ← setAddHashed a x h
end
end DL
namespace DL
open PySem L2 PySem.Spec
section
variable {P : Program} {w : World} {A : Around} {E : Value → Shared → Prop} {s : Shared} {a o : Addr} {S T : Int → Bool} {n m : Nat}
def flips (id : String) (a o : Addr) (was : Nat) (ys : Array (Int × Value)) : Sem Unit := do
  for (h, x) in ys do
    flipV a h x
    Builtin.Frozenset.unchanged id o was
end
end DL
namespace DL
open PySem L2 PySem.Spec
structure Sits (m n : Nat) (owner : Array (Option Nat)) : Prop where
  sz : owner.size = m + 1
  all : ∀ k, k < n → ∃ j, j ≤ m ∧ oAt owner j = some k
  few : ∃ ps : List Nat, ps.length = n ∧ ∀ j, j ≤ m → oAt owner j ≠ none → j ∈ ps
end DL
namespace DL
open PySem L2 PySem.Spec
section
variable {P : Program} {w : World} {A : Around} {E : Value → Shared → Prop} {s : Shared} {a o : Addr} {S T : Int → Bool} {n m : Nat}
def Bare (w : World) (h : Heap) (a : Addr) (M : Nat) : Prop :=
  ∃ ob ep t, h.get? a = some ob ∧ ob.ExactSet ∧ ob.data = .set #[] ep t ∧ t.place = #[] ∧ t.dummies = #[] ∧ t.mask = M ∧ (w.params.followText "set-order" = true ∨ t.led = true)
theorem Bare.setR {M : Nat} (B : Bare w s.heap a M) (hT : ∀ k, T k = false) : SetR w s.heap a T 0 := by
  obtain ⟨ob, ep, t, ho, hex, hd, hp, hdm, hM, hl⟩ := B
  refine ⟨ob, #[], ep, t, ho, hex, hd, fun e he => by simp at he, by simp, fun k => by rw [hT k]; simp, by decide, ?_, rfl, ?_, hl⟩
  · unfold SetTable.fits SetTable.fill
    rw [hp, hdm]
    simp
  · rw [hp]; exact List.Pairwise.nil
end
end DL
namespace DL
open PySem L2 PySem.Spec
section
variable {P : Program} {w : World} {A : Around} {E : Value → Shared → Prop} {s : Shared} {a o : Addr} {S T : Int → Bool} {n m : Nat}
end
end DL
namespace DL
open PySem L2 PySem.Spec
section
variable {P : Program} {w : World} {A : Around} {E : Value → Shared → Prop} {s : Shared} {a o l r : Addr} {S T : Int → Bool} {n m : Nat}
end
end DL
namespace DL
open PySem L2 PySem.Spec PyProof.Rows
section
variable {ι : Type} {Xf : ι → Cx} {P : Program} {w : World} {K : PySem.W.Frag} {mg : Str → Option Value} {base : Heap} {n : Nat} [F : Fam Xf P w K mg base n]
variable {m m1 m2 : List Ty} {pos p pos2 p2 pos3 p3 pos4 : Pos} {a b : Expr} {f g : Ef}
end
end DL
namespace DL
open PySem L2 PySem.Spec PyProof.Rows
def gRv : PyData → Option (List PyData)
  | .list ds => some ds.reverse
  | _ => none
def iRv (f : Ef) : Lf := fun e => (f e).bind fun p => (gRv p.1).bind fun ds => some (ds, p.2)
@[simp] theorem riRv {f : Ef} {e : En} : iRv f e = (f e).bind fun p => (gRv p.1).bind fun ds => some (ds, p.2) := rfl
section
variable {ι : Type} {Xf : ι → Cx} {P : Program} {w : World} {K : PySem.W.Frag} {mg : Str → Option Value} {base : Heap} {n : Nat} [F : Fam Xf P w K mg base n]
variable {m m1 : List Ty} {pos p : Pos} {a tg : Expr} {f : Ef}
end
end DL
namespace DL
open PySem L2 PySem.Spec PyProof.Rows
def rngDn (hi : Int) (n : Nat) : List PyData := (List.range n).map fun i => .int (hi - (i : Nat))
def rng3 : PyData → PyData → PyData → Option (List PyData)
  | .int i, .int j, .int c => if (i - j).toNat ≤ sizeLine ∧ -(2 ^ 62) ≤ i ∧ i < 2 ^ 62 ∧ -(2 ^ 62) ≤ j ∧ j < 2 ^ 62 ∧ c = -1 then some (rngDn i (i - j).toNat) else none
  | _, _, _ => none
def iR3 (f g h : Ef) : Lf := fun e => (f e).bind fun p => (g p.2).bind fun q => (h q.2).bind fun r => (rng3 p.1 q.1 r.1).bind fun ds => some (ds, r.2)
@[simp] theorem riR3 {f g h : Ef} {e : En} : iR3 f g h e = (f e).bind fun p => (g p.2).bind fun q => (h q.2).bind fun r => (rng3 p.1 q.1 r.1).bind fun ds => some (ds, r.2) := rfl
section
variable {ι : Type} {Xf : ι → Cx} {P : Program} {w : World} {K : PySem.W.Frag} {mg : Str → Option Value} {base : Heap} {n : Nat} [F : Fam Xf P w K mg base n]
variable {m m1 m2 m3 : List Ty} {pos p : Pos} {a b c tg : Expr} {f g h : Ef}
end
end DL
namespace DL
open PySem L2 PySem.Spec
section
variable {K : PySem.W.Frag} {m m1 : List Ty} {M : Mk} {lf : Lf}
end
section
variable {ι : Type} {Xf : ι → Cx} {P : Program} {w : World} {K : PySem.W.Frag} {mg : Str → Option Value} {base : Heap} {n : Nat} [F : Fam Xf P w K mg base n]
variable {M : Mk} {m m1 m2 : List Ty} {pos p p2 apos cpos xp : Pos} {a b c : Expr} {f g h : Ef} {lf : Lf} {t1 t2 t3 : Ty}
end
theorem nnx_retE {tw : CT} {f : Ef} : NoNx (sRetE tw f) := fun e e' h => by
  obtain ⟨p, _, h⟩ := oBs h
  obtain ⟨q, _, h⟩ := oBs h
  cases h
end DL
namespace DL
open PySem PySem.Spec L2
section
variable {ι : Type} {Xf : ι → Cx} {P : Program} {w : World} {K : PySem.W.Frag} {mg : Str → Option Value} {base : Heap} {n : Nat} [F : Fam Xf P w K mg base n]
variable {m m1 : List Ty} {a : Expr} {ef : Ef} {k : Nat} {p1 p2 p3 pos : Pos}
end
end DL
namespace DL
open PySem PySem.Spec L2
section
variable {K : PySem.W.Frag} {m : List Ty} {g : Gq} {pt : Pf} {t : Ty} {ts : List Ty} {ns : List Str} {C : Addr} {f : Str} {k : Nat}
end
section
variable {ι : Type} {Xf : ι → Cx} {P : Program} {w : World} {K : PySem.W.Frag} {mg : Str → Option Value} {base : Heap} {n : Nat} [F : Fam Xf P w K mg base n]
variable {m : List Ty} {pos : Pos} {a : Expr} {g : Gq} {pt : Pf} {t : Ty} {ts : List Ty} {ns : List Str} {C : Addr} {f : Str}
end
end DL
namespace DL
open PySem PySem.Spec L2
section
variable {K : PySem.W.Frag} {m m1 : List Ty} {g : Gq} {pt : Pf} {t : Ty} {ts : List Ty} {ns : List Str} {C : Addr} {f : Str} {k : Nat} {M : Mk}
end
section
variable {ι : Type} {Xf : ι → Cx} {P : Program} {w : World} {K : PySem.W.Frag} {mg : Str → Option Value} {base : Heap} {n : Nat} [F : Fam Xf P w K mg base n]
variable {M : Mk} {m m1 : List Ty} {pos spos : Pos} {o v : Expr} {g : Gq} {pt : Pf} {t : Ty} {ts : List Ty} {ns : List Str} {C : Addr} {f : Str} {ef : Ef}
end
end DL
namespace DL
open PySem PySem.Spec L2
def sNewF (j : Nat) (f : Ef) : Sf := fun e => (f e).bind fun p => match p.2.getD j .none with
  | .list ds => some (.nx, p.2.set j (.list (ds ++ [p.1])))
  | _ => none
section
variable {K : PySem.W.Frag} {m m1 : List Ty} {t : Ty} {ts : List Ty} {ns : List Str} {C : Addr} {f : Str} {M : Mk}
end
section
variable {ι : Type} {Xf : ι → Cx} {P : Program} {w : World} {K : PySem.W.Frag} {mg : Str → Option Value} {base : Heap} {n : Nat} [F : Fam Xf P w K mg base n]
variable {M : Mk} {m m1 : List Ty} {pos spos xp : Pos} {v : Expr} {t : Ty} {ts : List Ty} {ns : List Str} {C : Addr} {f : Str} {ef : Ef}
end
end DL
namespace DL
open PySem PySem.Spec L2
section
variable {K : PySem.W.Frag} {m m1 m2 : List Ty} {fr : Lf} {tys : List Ty} {L : List (Option Nat)}
end
structure CalM (P : Program) (w : World) (K : PySem.W.Frag) (mg : Str → Option Value) (base : Heap) (k : Nat) (C : Addr) (x : Str) (ptys : List Ty) (rty : Ty) (Fn : DFn) : Prop where
  ex : ∃ (f : Addr) (fd : FuncData) (ps : List Str), FnG P w K mg base k f fd ps (spD K ptys rty Fn) ∧ Meth K C x f ∧ Binds K fd ps []
section
variable {K : PySem.W.Frag} {m m1 : List Ty} {rty : Ty} {ts : List Ty} {ns : List Str} {C : Addr} {x : Str} {ef : Ef} {sp : Sp} {tl : TA} {j : Nat}
end
section
variable {ι : Type} {Xf : ι → Cx} {P : Program} {w : World} {K : PySem.W.Frag} {mg : Str → Option Value} {base : Heap} {n : Nat} [F : Fam Xf P w K mg base n] [FG : FamG Xf]
variable {m m1 : List Ty} {pos apos xp : Pos} {a : Expr} {es : List Expr} {fr : Lf} {tys : List Ty} {L : List (Option Nat)} {C : Addr} {ns : List Str} {ts : List Ty}
end
end DL
namespace DL
open PySem PySem.Spec L2
section
variable {ι : Type} {Xf : ι → Cx} {P : Program} {w : World} {K : PySem.W.Frag} {mg : Str → Option Value} {base : Heap} {n : Nat} [F : Fam Xf P w K mg base n] [FG : FamG Xf]
variable {m m1 : List Ty} {pos apos xp : Pos} {a : Expr} {es : List Expr} {fr : Lf} {tys : List Ty} {L : List (Option Nat)} {C : Addr} {ns : List Str} {ts : List Ty}
end
end DL
namespace DL
open PySem PySem.Spec L2
def spI (K : PySem.W.Frag) (pty pty' : Ty) (ptys : List Ty) (Fn : DFn) : Sp := fun vs H Q _ =>
  ∃ (d0 : PyData) (ds : List PyData) (fs : List PyData) (G : Hp) (A : List Addr), Fn (d0 :: ds) = some (.none, fs) ∧ OwnA K G H (pty :: ptys) (d0 :: ds) (vs.map some) A ∧ A.Nodup ∧ Same G H ∧
    ∀ (G' H' : Hp) (v : V) (A' : List Addr), Step A G H A' G' H' → OwnA K G' H' (pty' :: ptys) fs (vs.map some) A' → A'.Nodup → Same G' H' → v = .non → Q v H'
structure CalI (P : Program) (w : World) (K : PySem.W.Frag) (mg : Str → Option Value) (base : Heap) (k : Nat) (C : Addr) (x : Str) (ns : List Str) (ts ptys : List Ty) (Fn : DFn) : Prop where
  ex : ∃ (f : Addr) (fd : FuncData) (ps : List Str), FnG P w K mg base k f fd ps (spI K (.o C [] []) (.o C ns ts) ptys Fn) ∧ L2.Mk K C f ∧ mg x = some (.ref C) ∧ Binds K fd ps []
section
variable {ι : Type} {Xf : ι → Cx} {P : Program} {w : World} {K : PySem.W.Frag} {mg : Str → Option Value} {base : Heap} {n : Nat} [F : Fam Xf P w K mg base n] [FG : FamG Xf]
variable {m m1 : List Ty} {pos p : Pos} {a : Expr} {es : List Expr} {fr : Lf} {tys : List Ty} {L : List (Option Nat)} {C : Addr} {ns : List Str} {ts : List Ty}
end
end DL
namespace DL
open PySem PySem.Spec L2
def eMake (Fn : DFn) (r : Lf) : Ef := fun e => (r e).bind fun p => (Fn (.list [] :: p.1)).bind fun q => match q with
  | (.none, f0 :: _) => some (f0, p.2)
  | _ => none
section
variable {K : PySem.W.Frag} {m m1 : List Ty} {fr : Lf} {tys : List Ty} {L : List (Option Nat)} {C : Addr} {ns : List Str} {ts : List Ty} {Fn : DFn}
end
section
variable {ι : Type} {Xf : ι → Cx} {P : Program} {w : World} {K : PySem.W.Frag} {mg : Str → Option Value} {base : Heap} {n : Nat} [F : Fam Xf P w K mg base n] [FG : FamG Xf]
variable {m m1 : List Ty} {pos p : Pos} {a : Expr} {es : List Expr} {fr : Lf} {tys : List Ty} {L : List (Option Nat)} {C : Addr} {ns : List Str} {ts : List Ty}
end
end DL
namespace DL
open PySem PySem.Spec L2
end DL
namespace DL
open PySem PySem.Spec L2
def flatN : Nat → PyData → Bool
  | 0, d => sc1 d
  | n + 1, .tuple xs => xs.all (flatN n)
  | _ + 1, d => sc1 d
def flatR : Ty → PyData → Bool
  | .s, d => flatN 3 d
  | .d, .dict kvs => kvs.all fun p => sc1 p.2
  | _, _ => false
def borF (rty : Ty) (Fn : DFn) : DFn := fun ds => (Fn ds).bind fun p => (grd (flatR rty p.1)).bind fun _ => some (p.1, ds)
section
variable {K : PySem.W.Frag} {G G' H : Hp}
end
section
variable {P : Program} {w : World} {K : PySem.W.Frag} {mg : Str → Option Value} {base : Heap} {k : Nat} {f : Addr} {fd : FuncData} {ps : List Str} {C : Addr} {ns : List Str} {ts tys : List Ty} {rty : Ty} {Fn : DFn}
end
end DL
namespace DL
open PySem PySem.Spec L2
section
variable {K : PySem.W.Frag} {G H : Hp} {ts : List Ty} {ns : List Str} {f : Str} {k : Nat} {t : Ty} {fs : List (Str × V)} {ds : List PyData} {A1 : List Addr} {d : PyData}
end
section
variable {K : PySem.W.Frag} {m : List Ty} {g : Gq} {pt : Pf} {t : Ty} {ts : List Ty} {ns : List Str} {C : Addr} {f : Str} {k j : Nat}
end
section
variable {ι : Type} {Xf : ι → Cx} {P : Program} {w : World} {K : PySem.W.Frag} {mg : Str → Option Value} {base : Heap} {n : Nat} [F : Fam Xf P w K mg base n]
variable {m : List Ty} {pos p : Pos} {a : Expr} {g : Gq} {pt : Pf} {t : Ty} {ts : List Ty} {ns : List Str} {C : Addr} {f : Str}
end
section
variable {ι : Type} {Xf : ι → Cx} {P : Program} {w : World} {K : PySem.W.Frag} {mg : Str → Option Value} {base : Heap} {n : Nat} [F : Fam Xf P w K mg base n] [FG : FamG Xf]
variable {m m1 : List Ty} {pos apos xp : Pos} {a : Expr} {es : List Expr} {fr : Lf} {tys : List Ty} {L : List (Option Nat)} {C : Addr} {ns : List Str}
end
end DL
namespace DL
open PySem PySem.Spec L2
def gAppF (k : Nat) : PyData → PyData → Option PyData
  | .list ds, x => match ds[k]? with
    | some (.list xs) => if xs.length < sizeLine then some (.list (ds.set k (.list (xs ++ [x])))) else none
    | _ => none
  | _, _ => none
def eAppF (j k : Nat) (f : Ef) : Ef := fun e => (f e).bind fun p => (gAppF k (e.getD j .none) p.1).bind fun d => some (.none, p.2.set j d)
section
variable {K : PySem.W.Frag} {m m1 : List Ty} {t : Ty} {ts : List Ty} {ns : List Str} {C : Addr} {fl : Str} {k j : Nat} {f : Ef}
end
section
variable {ι : Type} {Xf : ι → Cx} {P : Program} {w : World} {K : PySem.W.Frag} {mg : Str → Option Value} {base : Heap} {n : Nat} [F : Fam Xf P w K mg base n]
variable {m m1 : List Ty} {pos xp fpos apos cpos : Pos} {v : Expr} {f : Ef} {ts : List Ty} {ns : List Str} {C : Addr} {fl : Str}
end
end DL
namespace DL
open PySem PySem.Spec L2
end DL
namespace DL
open PySem PySem.Spec L2 PyProof.Rows
theorem k2 {K : PySem.W.Frag} {t : String} {a b : Bool} (h1 : kitB t "tuple" = some a) (h2 : kitB t "list" = some b) : PySem.W.kitAny K (.type t) [.type "tuple", .type "list"] = some (a || b) := by
  refine kitAny_cons (kit_ty h1) (fun z => ?_) fun z => by rw [z]; rfl
  rw [z]
  exact kitAny_cons (kit_ty h2) (fun z => by rw [z]; exact kitAny_nil) fun z => by rw [z]; rfl
section
variable {ι : Type} {Xf : ι → Cx} {P : Program} {w : World} {K : PySem.W.Frag} {mg : Str → Option Value} {base : Heap} {n : Nat} [F : Fam Xf P w K mg base n]
variable {m m1 : List Ty} {pos p p2 p3 p4 : Pos} {a : Expr} {f : Ef} {k1 : Nat}
end
end DL
namespace DL
open PySem PySem.Spec L2 PyProof.Rows
def IsTupN (h : Heap) (t : Addr) (its : Array Value) : Prop := ∃ o, h.get? t = some o ∧ o.cls = .type "tuple" ∧ o.dict = none ∧ ∃ n, o.data = .seq its n
theorem IsTupN.tup {h : Heap} {t : Addr} {its : Array Value} (e : IsTupN h t its) : IsTup h t its := by
  obtain ⟨o, h1, h2, _, h3⟩ := e
  exact ⟨o, h1, h2, h3⟩
section
variable {P : Program} {w : World} {A : Around} {E : Value → Shared → Prop} {u : Shared}
end
section
variable {P : Program} {w : World} {A : Around} {R : Result → Shared → Prop} {I : Addr} {fp wr : List Addr} {G : Array GenState → Array GenState → Prop} {n : Nat} {Pd : Nat → Value → Prop} {St : Nat → Shared → Prop}
end
section
variable {X : Cx}
end
end DL
namespace DL
open PySem PySem.Spec L2 PyProof.Rows
section
variable {ι : Type} {Xf : ι → Cx} {P : Program} {w : World} {K : PySem.W.Frag} {mg : Str → Option Value} {base : Heap} {n : Nat} [Fm : Fam Xf P w K mg base n] [FG : FamG Xf]
end
end DL
namespace DL
open PySem PySem.Spec L2
def gKeys : PyData → Option (List PyData)
  | .dict kvs => some (kvs.map (·.1))
  | _ => none
def iKy (j : Nat) : Lf := fun e => (gKeys (e.getD j .none)).bind fun ds => some (ds, e)
@[simp] theorem riKy {j : Nat} {e : En} : iKy j e = (gKeys (e.getD j .none)).bind fun ds => some (ds, e) := rfl
section
variable {K : PySem.W.Frag} {G H H' : Hp} {a : Addr} {o : Obj} {kvs : List (Int × V)}
end
section
variable {K : PySem.W.Frag} {m mn : List Ty} {M : Mk} {j : Nat}
end
section
variable {ι : Type} {Xf : ι → Cx} {P : Program} {w : World} {K : PySem.W.Frag} {mg : Str → Option Value} {base : Heap} {n : Nat} [F : Fam Xf P w K mg base n]
variable {m m1 mn : List Ty} {M : Mk}
end
section
variable {K : PySem.W.Frag} {G H G1 H1 : Hp} {m m1 m2 : List Ty} {σ : St} {e : En} {A A1 : List Addr} {a : Addr} {o : Obj} {kvs : List (Int × V)}
end
section
variable {ι : Type} {Xf : ι → Cx} {P : Program} {w : World} {K : PySem.W.Frag} {mg : Str → Option Value} {base : Heap} {n : Nat} [F : Fam Xf P w K mg base n]
variable {m m1 m2 : List Ty} {ad : Addr} {ob : Obj} {kvs : List (Int × V)} {pos p xp : Pos} {a b tg : Expr} {f g : Ef}
end
end DL
namespace PySem.AutoSeq1
end PySem.AutoSeq1
namespace DL
open PySem PySem.Spec L2
def gExtT (l x : PyData) : Option PyData := match l, x with
  | .list ds, .tuple es => if ds.length + es.length ≤ sizeLine then some (.list (ds ++ es)) else none
  | _, _ => none
def eExtT (j : Nat) (f : Ef) : Ef := fun e => (f e).bind fun p => (gExtT (p.2.getD j .none) p.1).bind fun l => some (.none, p.2.set j l)
@[simp] theorem rExtT {j : Nat} {f : Ef} {e : En} : eExtT j f e = (f e).bind fun p => (gExtT (p.2.getD j .none) p.1).bind fun l => some (.none, p.2.set j l) := rfl
section
variable {K : PySem.W.Frag} {m m1 : List Ty} {f : Ef}
end
section
variable {ι : Type} {Xf : ι → Cx} {P : Program} {w : World} {K : PySem.W.Frag} {mg : Str → Option Value} {base : Heap} {n : Nat} [F : Fam Xf P w K mg base n]
variable {m m1 : List Ty} {apos cpos xp : Pos} {v : Expr} {f : Ef}
end
end DL
namespace DL
open PySem PySem.Spec L2
section
variable {K : PySem.W.Frag} {G H : Hp} {m m1 m2 : List Ty} {f g : Ef} {t : Ty}
end
section
variable {ι : Type} {Xf : ι → Cx} {P : Program} {w : World} {K : PySem.W.Frag} {mg : Str → Option Value} {base : Heap} {n : Nat} [F : Fam Xf P w K mg base n]
variable {m m1 m2 : List Ty} {pos : Pos} {a b : Expr} {f g : Ef} {t : Ty}
end
end DL
namespace DL
open PySem L2 PySem.Spec
def sPar4 (i j l q : Nat) (f : Lf) : Sf := fun e => (f e).bind fun p => match p.1 with
  | [x, y, z, w] => some (.nx, (((p.2.set i x).set j y).set l z).set q w)
  | _ => none
def four {α : Type} (l : List PyData) (k : PyData → PyData → PyData → PyData → Option α) : Option α := match l with
  | [x, y, z, w] => k x y z w
  | _ => none
@[simp] theorem four_ok {α : Type} {x y z w : PyData} {k : PyData → PyData → PyData → PyData → Option α} : four [x, y, z, w] k = k x y z w := rfl
@[simp] theorem rsPar4 {i j l q : Nat} {fr : Lf} {e : En} : sPar4 i j l q fr e = (fr e).bind fun p => four p.1 fun x y z w => some (.nx, (((p.2.set i x).set j y).set l z).set q w) := rfl
section
variable {K : PySem.W.Frag} {m m1 : List Ty} {M : Mk} {lf : Lf}
end
section
variable {ι : Type} {Xf : ι → Cx} {P : Program} {w : World} {K : PySem.W.Frag} {mg : Str → Option Value} {base : Heap} {n : Nat} [F : Fam Xf P w K mg base n]
variable {M : Mk} {m m1 m2 : List Ty} {pos : Pos} {a b c d : Expr} {lf : Lf} {t1 t2 t3 t4 : Ty}
end
end DL
namespace DL
open PySem L2 PySem.Spec
def gDLen (d : PyData) : Option PyData := match d with
  | .dict kvs => some (.int kvs.length)
  | _ => none
def eDLen (j : Nat) : Ef := fun e => (gDLen (e.getD j .none)).map fun d => (d, e)
@[simp] theorem rDLen {j : Nat} {e : En} : eDLen j e = (gDLen (e.getD j .none)).bind fun d => some (d, e) := by unfold eDLen; cases gDLen (e.getD j .none) <;> rfl
section
variable {ι : Type} {Xf : ι → Cx} {P : Program} {w : World} {K : PySem.W.Frag} {mg : Str → Option Value} {base : Heap} {n : Nat} [F : Fam Xf P w K mg base n]
variable {m m1 : List Ty} {pos p p2 : Pos}
end
section
variable {K : PySem.W.Frag} {m m1 : List Ty} {M : Mk} {lf : Lf}
end
section
variable {ι : Type} {Xf : ι → Cx} {P : Program} {w : World} {K : PySem.W.Frag} {mg : Str → Option Value} {base : Heap} {n : Nat} [F : Fam Xf P w K mg base n]
variable {M : Mk} {m m1 m2 : List Ty} {pos p p2 apos cpos xp : Pos} {a b c : Expr} {f g h : Ef} {lf : Lf} {t1 t2 t3 : Ty}
end
end DL
namespace DL
open PySem L2 PySem.Spec
def gUpdL (d s : PyData) : Option PyData := match d, s with
  | .dict kvs, .list xs => (dictI kvs).bind fun ds => (intsOf xs).bind fun is => if kvs.length + is.length < 100000 then some (.dict ((joinI (yesI is (.bool true)) ds).map kvD)) else none
  | _, _ => none
def eUpdL (j : Nat) (f : Ef) : Ef := fun e => (f e).bind fun p => (gUpdL (p.2.getD j .none) p.1).bind fun d => some (.none, p.2.set j d)
@[simp] theorem rUpdL {j : Nat} {f : Ef} {e : En} : eUpdL j f e = (f e).bind fun p => (gUpdL (p.2.getD j .none) p.1).bind fun d => some (.none, p.2.set j d) := rfl
section
variable {K : PySem.W.Frag} {G H G1 H1 : Hp} {m m1 m2 mn : List Ty} {σ : St} {e : En} {A A1 : List Addr} {t : Ty} {ts : List Ty}
end
section
variable {ι : Type} {Xf : ι → Cx} {P : Program} {w : World} {K : PySem.W.Frag} {mg : Str → Option Value} {base : Heap} {n : Nat} [F : Fam Xf P w K mg base n]
variable {m m1 m2 m3 : List Ty} {pos p p2 apos cpos xp kp vp tp : Pos} {a b c e : Expr} {f g h : Ef} {scope : Scope} {jn : Option String}
end
end DL
namespace DL
open PySem L2 PySem.Spec
def un3L : PyData → Option (PyData × PyData × PyData)
  | .list [a, b, c] => some (a, b, c)
  | _ => none
def un4L : PyData → Option (PyData × PyData × PyData × PyData)
  | .list [a, b, c, d] => some (a, b, c, d)
  | _ => none
@[simp] theorem un3L_ok {x y z : PyData} : un3L (.list [x, y, z]) = some (x, y, z) := rfl
@[simp] theorem un4L_ok {x y z w : PyData} : un4L (.list [x, y, z, w]) = some (x, y, z, w) := rfl
@[simp] theorem rgTpL3 {gf gf2 gf3 : Gf} {d : PyData} {e : En} : gTpL 3 (gsCons gf (gsCons gf2 (gsCons gf3 gsNil))) d e = (un3L d).bind fun p => (gf p.1 e).bind fun e => (gf2 p.2.1 e).bind fun e => gf3 p.2.2 e := by
  unfold gTpL un3L
  cases d with
  | list ds =>
    match ds with
    | [] => rfl
    | [a] => rfl
    | [a, b] => rfl
    | [a, b, c] =>
      show ((gf a e).bind fun e' => (gf2 b e').bind fun e'' => (gf3 c e'').bind fun e''' => some e''') = _
      simp only [Option.bind_some]
      congr 1; funext e'; congr 1; funext e''; cases gf3 c e'' <;> rfl
    | a :: b :: c :: x :: r => show (if (a :: b :: c :: x :: r).length = 3 then _ else _) = _; rw [if_neg (by simp)]; rfl
  | _ => rfl
@[simp] theorem rgTpL4 {gf gf2 gf3 gf4 : Gf} {d : PyData} {e : En} : gTpL 4 (gsCons gf (gsCons gf2 (gsCons gf3 (gsCons gf4 gsNil)))) d e = (un4L d).bind fun p => (gf p.1 e).bind fun e => (gf2 p.2.1 e).bind fun e => (gf3 p.2.2.1 e).bind fun e => gf4 p.2.2.2 e := by
  unfold gTpL un4L
  cases d with
  | list ds =>
    match ds with
    | [] => rfl
    | [a] => rfl
    | [a, b] => rfl
    | [a, b, c] => rfl
    | [a, b, c, w] =>
      show ((gf a e).bind fun e' => (gf2 b e').bind fun e'' => (gf3 c e'').bind fun e3 => (gf4 w e3).bind fun e4 => some e4) = _
      simp only [Option.bind_some]
      congr 1; funext e'; congr 1; funext e''; congr 1; funext e3; cases gf4 w e3 <;> rfl
    | a :: b :: c :: w :: x :: r => show (if (a :: b :: c :: w :: x :: r).length = 4 then _ else _) = _; rw [if_neg (by simp)]; rfl
  | _ => rfl
end DL
namespace DL
open PySem L2 PySem.Spec
def eDGetP (g gi : Gq) : Ef := fun e => (g e).bind fun d => (gi e).bind fun i => (gDGet d i).bind fun x => some (x, e)
def eDInP (gg : PyData → PyData → Option PyData) (g gi : Gq) : Ef := fun e => (gi e).bind fun i => (g e).bind fun d => (gg d i).bind fun x => some (x, e)
def sDPutP (g : Gq) (pt : Pf) (gi : Gq) (f : Ef) : Sf := fun e => (f e).bind fun p => (g p.2).bind fun d => (gi p.2).bind fun i => (gDPut d i p.1).bind fun x => some (.nx, pt p.2 x)
@[simp] theorem rDGetP {g gi : Gq} {e : En} : eDGetP g gi e = (g e).bind fun d => (gi e).bind fun i => (gDGet d i).bind fun x => some (x, e) := rfl
@[simp] theorem rDInP {gg : PyData → PyData → Option PyData} {g gi : Gq} {e : En} : eDInP gg g gi e = (gi e).bind fun i => (g e).bind fun d => (gg d i).bind fun x => some (x, e) := rfl
@[simp] theorem rDPutP {g gi : Gq} {pt : Pf} {f : Ef} {e : En} : sDPutP g pt gi f e = (f e).bind fun p => (g p.2).bind fun d => (gi p.2).bind fun i => (gDPut d i p.1).bind fun x => some (.nx, pt p.2 x) := rfl
section
variable {K : PySem.W.Frag} {m m1 : List Ty} {g gi : Gq} {pt : Pf} {f : Ef}
end
section
variable {ι : Type} {Xf : ι → Cx} {P : Program} {w : World} {K : PySem.W.Frag} {mg : Str → Option Value} {base : Heap} {n : Nat} [F : Fam Xf P w K mg base n]
variable {m m1 m2 : List Ty} {pos p p2 pos' spos : Pos} {a b c : Expr} {g gi : Gq} {pt : Pf} {f : Ef} {M : Mk}
end
end DL
namespace DL
open PySem L2 PySem.Spec
section
variable {ι : Type} {Xf : ι → Cx} {P : Program} {w : World} {K : PySem.W.Frag} {mg : Str → Option Value} {base : Heap} {n : Nat} [F : Fam Xf P w K mg base n]
variable {M : Mk} {m mn : List Ty} {pos : Pos} {x : Str} {t : Ty} {v : V} {sts : List Stmt} {f : Sf}
end
def flatF : PyData → Bool
  | .dict kvs => kvs.all fun p => sc1 p.2
  | .list xs => xs.all sc1
  | d => sc1 d
def eThawO (i j : Nat) (f : Ef) : Ef := fun e => match e.getD i .none with
  | .list (_ :: ds) => (f (e.set i (.list (e.getD j .none :: ds)))).bind fun p => match p.2.getD i .none with
    | .list (_ :: es) => (grd (flat1 p.1 && es.all flatF)).bind fun _ => some (p.1, e.set i (.list (.none :: es)))
    | _ => none
  | _ => none
section
variable {K : PySem.W.Frag} {G G' H H' : Hp}
end
end DL
namespace DL
open PySem L2 PySem.Spec
abbrev leTail : List Value := [.type "LookupError", .type "Exception", .type "BaseException", .type "object"]
structure OexL (K : PySem.W.Frag) (C : Addr) : Prop where
  cls : ∃ nm q N bs sn sub ab col dd k0 k1 k2 k3 k5, K.lookup C = some (excClassObj nm q C N bs leTail true sn sub ab col dd k0 k1 k2 k3 k5 "LookupError.__new__")
  sa : PySem.W.findIn K (.ref C) "__setattr__" = some (some (.builtin "object.__setattr__"))
  exC : PySem.W.subIn K (.ref C) (.type "BaseException") = some true
  tyC : PySem.W.typeIn K (.ref C) = some (.type "type")
  kC : PySem.W.keepIn K (.ref C) = true
theorem OexL.over {K : PySem.W.Frag} {C : Addr} (T : OexL K C) : PySem.W.excOver K C leTail = true ∧ ∃ cd, PySem.W.clsIn K C = some cd ∧ cd.hasDict = true := by
  obtain ⟨nm, q, N, bs, sn, sub, ab, col, dd, k0, k1, k2, k3, k5, hC⟩ := T.cls
  have hcl : PySem.W.clsIn K C = some { name := nm, bases := bs, mro := .ref C :: leTail, ns := N, qualname := q, hasDict := true, slotNames := sn, subclasses := sub, abstract := ab, collection := col, hasDel := false } := by unfold PySem.W.clsIn; rw [hC] <;> rfl
  refine ⟨?_, _, hcl, rfl⟩
  unfold PySem.W.excOver
  rw [hcl]
  show (C == C && PySem.W.excTail leTail leTail) = true
  rw [beq_self_eq_true, Bool.true_and]
  decide +kernel
section
variable {X : Cx} {pins : List (Addr × Obj)} {σ : St} {H : Hp} {s : Shared} {a C dx : Addr} {f : Str} {y : V} {u : Value} {fs : List (Str × V)} {R : Unit → Shared → Prop} {E : Value → Shared → Prop} {Ar : Around}
end
section
variable {X : Cx} {o e : Expr} {es : List Expr} {to te : TE} {ta : TA} {f : Str} {p p' pos : Pos}
end
structure ExcG (P : Program) (w : World) (K : PySem.W.Frag) (mg : Str → Option Value) (base : Heap) (k : Nat) (x : Str) (flds : List Str) : Prop where
  ex : ∃ C : Addr, mg x = some (.ref C) ∧ ∀ (X : Cx) (a : Expr) (es : List Expr) (ta : TA) (p pos : Pos), X.prog = P → X.w = w → X.K = K → X.mg = mg → X.base = base → Room (k + 1) X.A → Gl X x → PA X (a :: es) ta → (x == ("__debug__" : Str)) = false →
    starEach (a :: es) X.env = (false, eval a X.env) :: starEach es X.env → (backTo pos (starEach es X.env)).any (·.1) = false → L2N.PMk X (.Call (.Name x p) (a :: es) [] pos) (tMkO C (spIn C flds) [] ta)
theorem ExcT.gen {P : Program} {w : World} {K : PySem.W.Frag} {mg : Str → Option Value} {base : Heap} {k : Nat} {x : Str} {flds : List Str} (T : ExcT P w K mg base k x flds) : ExcG P w K mg base k x flds := by
  obtain ⟨C, fI, fd, ps, OX, gC, iC, tI, FI, bI⟩ := T.ex
  refine ⟨C, gC, fun X a es ta p pos e1 e2 e3 e4 e5 hr hg ha hdb he hpl => ?_⟩
  subst e1 e2 e3 e4 e5
  exact pmk_oexN OX iC tI FI hr bI pass0 hg gC ha hdb he hpl
end DL
namespace DL
open PySem L2 PySem.Spec
def TestOk (X : Cx) (te : Expr) (cs : Value → Option Bool) : Prop :=
  ∀ (a : Addr) (oe : Obj) (pn : List (Addr × Obj)) (σ : St) (H : Hp) (s : Shared) (cls : Value) (b : Bool) (R : Bool → Shared → Prop) (E : Value → Shared → Prop), L2.Inv (X.suite a ((a, oe) :: pn)) [] σ H s →
    PySem.W.Looks (model X.prog X.w) s.heap (typeOf (.ref a)) cls → cs cls = some b → (∀ h', (∀ q o, s.heap.get? q = some o → h'.get? q = some o) → R b { s with heap := h' }) →
    wpAny (model X.prog X.w) (X.A.mark (some (.ref a))) (eval te X.env) (fun c s1 => wpAny (model X.prog X.w) (X.A.mark (some (.ref a))) (excMatches (.ref a) c) R E s1) E s
theorem name_at {X : Cx} {x : Str} {c : Value} {a : Addr} {oe : Obj} {pn : List (Addr × Obj)} {σ : St} {H : Hp} {s : Shared} {np : Pos} {R : Value → Shared → Prop} {E : Value → Shared → Prop} (n : Names X x c) (I : L2.Inv (X.suite a ((a, oe) :: pn)) [] σ H s) (q : R c s) :
    wpAny (model X.prog X.w) (X.A.mark (some (.ref a))) (eval (.Name x np) X.env) R E s := by
  obtain ⟨hg, hd, hm | ⟨hm, hv, hn⟩⟩ := n
  · exact ld_glob (X := X.suite a ((a, oe) :: pn)) I hg hm q hd
  · exact ld_blt (X := X.suite a ((a, oe) :: pn)) I hg hm hv q hn hd
theorem test_one {X : Cx} {x : Str} {c : Value} {np : Pos} (n : Names X x c) : TestOk X (.Name x np) (fun cls => PySem.W.exmOne X.K cls c) := fun a oe pn σ H s cls b R E I lt hb q =>
  name_at n I ((PySem.W.exm_one (M := model X.prog X.w) I.kIn lt hb).here (q s.heap fun _ _ z => z))
def HName (X : Cx) (nm : Str) : Prop := X.env.kindOf nm = some .local ∨ (X.env.kindOf nm = some .cell ∧ X.fn nm = true)
theorem HName.loc {X : Cx} {nm : Str} (h : HName X nm) : Loc X.env.scope nm := h.imp id fun z => z.1
theorem HName.fn {X : Cx} {nm : Str} (h : HName X nm) : X.fn nm = true ∨ X.env.scope.names.lookup nm = some .local := h.elim .inr fun z => .inl z.2
theorem gone_any {X : Cx} {pins : List (Addr × Obj)} {σ : St} {H : Hp} {s : Shared} {M : Model} {A : Around} {E : Value → Shared → Prop} {i : Nat} {n : Str} {pos : Pos} {Q : Unit → Shared → Prop} (I : L2.Inv X pins σ H s) (nd : X.N.Nodup) (hi : X.N[i]? = some n) (hl : HName X n)
    (h : ∀ s', L2.Inv X pins (σ.set i none) H s' → Q () s') : wpAny M A (do bindName X.env n .none; unbindBehindTheSuite X.env n pos) Q E s := by
  rcases hl with hl | ⟨hl, hfn⟩
  · exact gone_ok I nd hi hl h
  refine wpAny_bind (wpAny_bindName (store_ok2 (v := .non) I nd hi (.inr hl) rfl (fun s1 I1 _ => ?_) (.inl hfn)))
  unfold unbindBehindTheSuite
  refine wpAny_onRaise ?_
  obtain ⟨c, hc⟩ := I1.ok.has n (.inl hl)
  obtain ⟨m, hn, look⟩ := id I1.loc
  have lt : i < σ.length := by rw [I.len]; exact (List.getElem?_eq_some_iff.mp hi).1
  obtain ⟨u, ru, q⟩ := look i n .non hi (by rw [List.getElem?_set_self lt]) (.inr (.inl hl))
  have full : s1.heap.IsCell c (some u) := by
    rcases q with ⟨k, _⟩ | ⟨_, c2, e2, z⟩
    · rw [hl] at k; cases k
    · rw [hc] at e2; cases e2; exact z
  refine PySem.W.ksm_unbind_cell (.inl hl) hc full fun h2 cell2 sb => h { s1 with heap := h2 } ?_
  obtain ⟨oc, hoc, hocd⟩ := id full
  have ab : ∀ b o, X.s_0.heap.get? b = some o → b ≠ c := fun b o e => Nat.ne_of_lt (Nat.lt_of_lt_of_le (Heap.lt_size e) (I1.ok.cab n c hfn hc))
  have cfree := I1.freeC n c hc
  refine ⟨I1.ok, I1.os, I1.bare, ⟨fun b o e z hb hx => (sb.2 b (ab b o e)).trans (I1.base.keep b o e z hb hx), fun b o e z hb hx => ?_, I1.base.free, fun b o e hx => ?_, I1.base.tups, I1.base.frzs, I1.base.tbls⟩, ⟨m, hn.sameBut sb (Ne.symm (I1.cne n c hc)), fun j y v' e1 e2 e3 => ?_⟩, fun y c' e => ?_, I1.free, I1.freeC, fun p hp => ?_, fun b ob e => ?_, by simpa using I.len⟩
  · obtain ⟨sl, e1⟩ := I1.base.slot b o e z hb hx
    exact ⟨sl, (sb.2 b (ab b o e)).trans e1⟩
  · obtain ⟨o', e1⟩ := I1.base.there b o e hx
    exact ⟨o', (sb.2 b (ab b o e)).trans e1⟩
  · by_cases hj : j = i
    · subst hj
      rw [List.getElem?_set_self lt] at e2
      cases e2
    · obtain ⟨u', r', q⟩ := look j y v' e1 (by rw [List.getElem?_set_ne (Ne.symm hj)] at e2 ⊢; exact e2) e3
      refine ⟨u', r', ?_⟩
      rcases q with q | ⟨k, c', e, z⟩
      · exact .inl q
      · exact .inr ⟨k, c', e, z.sameBut sb fun w => hj (nodup_ix nd e1 (I1.ok.inj _ _ _ e (w ▸ hc) ▸ hi))⟩
  · by_cases hcc : c' = c
    · subst hcc; exact ⟨_, cell2⟩
    · obtain ⟨w2, z2⟩ := I1.cell y c' e
      exact ⟨w2, z2.sameBut sb hcc⟩
  · obtain ⟨e, z, ne, nf, d⟩ := I1.pin p hp
    refine ⟨(sb.2 p.1 fun w => ?_).trans e, z, ne, nf, d⟩
    rw [w, hoc] at e
    have q' : oc = p.2 := Option.some.inj e
    exact d (some u) (by rw [← q']; exact hocd)
  · refine (I1.hok b ob e).stay (fun d w' hd q => (sb.2 d fun w => ?_).trans q) (fun _ q => q) fun _ _ q => q
    subst w
    rcases hd with hd | hd
    · rw [← hd, cfree] at e; cases e
    · rw [cfree] at hd; cases hd
structure Cl where
  cs : Value → Option Bool
  i : Option Nat
  ts : Addr → Value → Option Addr → TS
def Ends.drop (D : Ends) (i : Nat) : Ends := { nx := fun σ' H' => D.nx (σ'.set i none) H', rt := D.rt, bk := fun σ' H' => D.bk (σ'.set i none) H', ct := fun σ' H' => D.ct (σ'.set i none) H' }
def Cl.ask (c : Cl) (D : Ends) (a : Addr) (cls : Value) (d : Option Addr) (σ : St) (H : Hp) : Prop := match c.i with
  | none => c.ts a cls d D σ H
  | some i => c.ts a cls d (Ends.drop D i) (σ.set i (some (.ref a))) H
def wCl (Wout : WX) (D : Ends) : List Cl → WX
  | [] => Wout
  | c :: r => fun cls d σ H => ∃ b, c.cs cls = some b ∧ (b = true → ∀ a, H a = none → c.ask D a cls d σ H) ∧ (b = false → wCl Wout D r cls d σ H)
inductive ClsOk (X : Cx) : List ExceptHandler → List Cl → Prop
  | nil : ClsOk X [] []
  | one {te : Expr} {cs : Value → Option Bool} {ts : Addr → Value → Option Addr → TS} {b0 : Stmt} {su : List Stmt} {p : Pos} {hs : List ExceptHandler} {l : List Cl} (t : TestOk X te cs)
      (w : ∀ (a : Addr) (oe : Obj) (cls : Value) (d : Option Addr) (pn : List (Addr × Obj)), L2N.Zn cls d oe → (∃ vs, oe.data = .fields vs) → PSs (X.suite a ((a, oe) :: pn)) (b0 :: su) (ts a cls d)) (r : ClsOk X hs l) :
      ClsOk X (.ExceptHandler (some te) none (b0 :: su) p :: hs) (⟨cs, none, ts⟩ :: l)
  | as {te : Expr} {cs : Value → Option Bool} {ts : Addr → Value → Option Addr → TS} {b0 : Stmt} {su : List Stmt} {p : Pos} {hs : List ExceptHandler} {l : List Cl} {i : Nat} {nm : Str} (t : TestOk X te cs) (nd : X.N.Nodup) (hi : X.N[i]? = some nm) (hl : HName X nm)
      (w : ∀ (a : Addr) (oe : Obj) (cls : Value) (d : Option Addr) (pn : List (Addr × Obj)), L2N.Zn cls d oe → (∃ vs, oe.data = .fields vs) → PSs (X.suite a ((a, oe) :: pn)) (b0 :: su) (ts a cls d)) (r : ClsOk X hs l) :
      ClsOk X (.ExceptHandler (some te) (some nm) (b0 :: su) p :: hs) (⟨cs, some i, ts⟩ :: l)
theorem fly_up {B : Heap} {l : List Env} {e : Addr} {Z : Obj → Prop} {h h' : Heap} (x : PySem.HandSPX.FlyingZ B l e Z h) (k : ∀ b o, h.get? b = some o → h'.get? b = some o) : PySem.HandSPX.FlyingZ B l e Z h' := by
  obtain ⟨x1, x2, x3, oe, vs, T, oT, ts, x4, x5, x6, x7, x8, x9, x10, x11⟩ := x
  exact ⟨fun b o z => k b o (x1 b o z), x2, x3.of_keeps fun b o z _ => ⟨o, k b o z, rfl⟩, oe, vs, T, oT, ts, k _ _ x4, x5, x6, x7, x8, x9, k _ _ x10, x11⟩
section
variable {X : Cx} {body : List Stmt} {c0 : ExceptHandler} {hds : List ExceptHandler} {l : List Cl} {pos : Pos} {tb : WX → TS} {Wout : WX}
theorem clause_ok {B : Heap} {a : Addr} {sI s1 : Shared} {σ : St} {H : Hp} {cls : Value} {d : Option Addr} {pins : List (Addr × Obj)} {D : Ends} (hs : X.stack = X.env :: X.outer) (hf : X.env.frame = some X.env.locals) (ok : X.Ok) (tk : L2N.Takes X Wout)
    (J : L2.Inv X pins σ H sI) (nb : ∀ b o, sI.heap.get? b = some o → b ∉ frs X.stack → B.get? b = some o) (na : H a = none) (os : s1.os = sI.os) (ag : PyProof.Rows.AllBare s1.gens) :
    ∀ {hds : List ExceptHandler} {l : List Cl}, ClsOk X hds l → ∀ {h3 : Heap}, PySem.HandSPX.FlyingZ B (X.env :: X.outer) a (L2N.Zn cls d) h3 → sI.heap.UpToSlots h3 → wCl Wout D l cls d σ H →
      wpAny (model X.prog X.w) X.A (handleBy (.ref a) X.env hds) (SP X pins D) X.xe { s1 with heap := h3 } := by
  intro hds l hk
  have facts : ∀ {h3 : Heap}, PySem.HandSPX.FlyingZ B (X.env :: X.outer) a (L2N.Zn cls d) h3 → sI.heap.UpToSlots h3 → ∃ oe vs, h3.get? a = some oe ∧ L2N.Zn cls d oe ∧ oe.data = .fields vs ∧ L2.Inv (X.suite a ((a, oe) :: (X.pn ++ pins))) [] σ H { s1 with heap := h3 } := fun {h3} fl up => by
    obtain ⟨oe, vs, e1, e2, e3⟩ := fl.there
    have out : a ∉ frs (X.env :: X.outer) := fun hm => by
      obtain ⟨_, o2, g1, g2⟩ := fl.2.2.1.mem hm
      rw [e1] at g1
      cases g1
      exact g2 _ e3
    have J3 : L2.Inv X pins σ H { s1 with heap := h3 } := J.landed nb fl.1 up os ag
    refine ⟨oe, vs, e1, e2, e3, J3.suite e1 e3 na (fun z => out (List.mem_filterMap.mpr ⟨X.env, List.mem_cons_self, by rw [hf, z]⟩)) fun hm => ?_⟩
    obtain ⟨e, he, z⟩ := List.mem_filterMap.mp hm
    exact out (List.mem_filterMap.mpr ⟨e, List.mem_cons_of_mem _ he, z⟩)
  induction hk with
  | nil =>
    intro h3 fl up w
    refine wpAny_handleBy_nil ?_
    obtain ⟨_, _, _, oe, vs, T, oT, ts, e1, _, e3, e4, _⟩ := id fl
    unfold PySem.passOn
    refine wpAny_bind (wpAny_field e1 e3 e4 ?_)
    rw [if_neg (show ¬ ((Value.ref T == Value.none) = true) from by simp)]
    have out : wpAny (model X.prog X.w) X.A (setFlight (.ref a) X.env.frame) (fun _ s4 => wpAny (model X.prog X.w) X.A (throw (.ref a) : Sem Flow) (SP X pins D) X.xe s4) X.xe { s1 with heap := h3 } := by
      rw [hf]
      refine PySem.HandSPX.setFlight_upZ fl fun h4 held up4 => wpAny_throw (tk _ _ ?_)
      exact ⟨a, B, sI, pins, σ, H, cls, d, rfl, J, nb, up.trans up4, .inr (.inr (by rw [hs]; exact held)), na, os, ag, w⟩
    first
      | exact wpAny_bind (wpAny_pure (wpAny_bind out))
      | exact wpAny_bind out
  | @one te cs ts b0 su p hds2 l2 t sw r ih =>
    intro h3 fl up w
    obtain ⟨b, hb, yes, no⟩ := w
    obtain ⟨oe, vs, e1, e2, e3, S3⟩ := facts fl up
    refine wpAny_handleBy_cons (codeAny_handlers_test ?_) (by intro q; cases q)
    have lt : PySem.W.Looks (model X.prog X.w) h3 (typeOf (.ref a)) cls := fun _ _ _ _ k q => wpAny_typeOf_ref (k _ _ e1) (by rw [e2.1]; exact q)
    refine t a oe (X.pn ++ pins) σ H _ cls b _ _ S3 lt hb fun h4 k4 => ?_
    have fl4 := fly_up fl k4
    have up4 := up.trans (Heap.UpToSlots.of_keeps k4)
    cases b with
    | false => exact ih (fl4) up4 (no rfl)
    | true =>
      refine codeAny_handlers_suite ?_
      refine PySem.HandSPX.lands_againZ fl4 fun h5 fl5 up5 => ?_
      obtain ⟨o5, v5, f1, f2, f3, S5⟩ := facts fl5 (up4.trans up5)
      refine wpAny_mono ((sw a o5 cls d (X.pn ++ pins) f2 ⟨_, f3⟩).run [] _ _ H _ S5 (yes rfl a na)) (fun f s6 z => ?_) (fun _ _ z => z.elim)
      cases f with
      | next => obtain ⟨σ6, H6, S6, q6⟩ := z; exact ⟨_, _, S6.unsuite ok, q6⟩
      | brk => obtain ⟨σ6, H6, S6, q6⟩ := z; exact ⟨_, _, S6.unsuite ok, q6⟩
      | cont => obtain ⟨σ6, H6, S6, q6⟩ := z; exact ⟨_, _, S6.unsuite ok, q6⟩
      | ret u => obtain ⟨v6, σ6, H6, S6, r6, q6⟩ := z; exact ⟨_, _, _, S6.unsuite ok, r6, q6⟩
  | @as te cs ts b0 su p hds2 l2 i nm t nd hi hl sw r ih =>
    intro h3 fl up w
    obtain ⟨b, hb, yes, no⟩ := w
    obtain ⟨oe, vs, e1, e2, e3, S3⟩ := facts fl up
    refine wpAny_handleBy_cons (codeAny_handlers_test ?_) (by intro q; cases q)
    have lt : PySem.W.Looks (model X.prog X.w) h3 (typeOf (.ref a)) cls := fun _ _ _ _ k q => wpAny_typeOf_ref (k _ _ e1) (by rw [e2.1]; exact q)
    refine t a oe (X.pn ++ pins) σ H _ cls b _ _ S3 lt hb fun h4 k4 => ?_
    have fl4 := fly_up fl k4
    have up4 := up.trans (Heap.UpToSlots.of_keeps k4)
    cases b with
    | false => exact ih (fl4) up4 (no rfl)
    | true =>
      refine codeAny_handlers_suite_as ?_
      refine PySem.HandSPX.lands_againZ fl4 fun h5 fl5 up5 => ?_
      obtain ⟨o5, v5, f1, f2, f3, S5⟩ := facts fl5 (up4.trans up5)
      refine store_ok (X := X.suite a ((a, o5) :: (X.pn ++ pins))) (v := .ref a) S5 nd hi (HName.loc hl) rfl (fun s6 S6 => ?_) (HName.fn hl)
      refine wpAny_mono ((sw a o5 cls d (X.pn ++ pins) f2 ⟨_, f3⟩).run [] s6 _ H _ S6 (yes rfl a na)) (fun f s7 z => ?_) (fun _ _ z => z.elim)
      cases f with
      | next => obtain ⟨σ7, H7, S7, q7⟩ := z; exact gone_any (S7.unsuite ok) nd hi hl fun s8 J8 => ⟨_, _, J8, q7⟩
      | brk => obtain ⟨σ7, H7, S7, q7⟩ := z; exact gone_any (S7.unsuite ok) nd hi hl fun s8 J8 => ⟨_, _, J8, q7⟩
      | cont => obtain ⟨σ7, H7, S7, q7⟩ := z; exact gone_any (S7.unsuite ok) nd hi hl fun s8 J8 => ⟨_, _, J8, q7⟩
      | ret u => obtain ⟨v7, σ7, H7, S7, r7, q7⟩ := z; exact gone_any (S7.unsuite ok) nd hi hl fun s8 J8 => ⟨_, _, _, J8, r7, q7⟩
theorem ps_try_cl (hs : X.stack = X.env :: X.outer) (hf : X.env.frame = some X.env.locals) (tk : L2N.Takes X Wout)
    (hb : ∀ (W : WX) (pn : List (Addr × Obj)) (xe : Value → Shared → Prop), L2N.Takes (X.tr pn xe) W → PassesOwn (model X.prog X.w) X.A X.env xe → PSs (X.tr pn xe) body (tb W))
    (hc : ClsOk X (c0 :: hds) l) : PS X (.Try body (c0 :: hds) [] [] pos) (fun D σ H => tb (wCl Wout D l) D σ H) := by
  refine ⟨fun pins s σ H D I h => ?_⟩
  have ok := I.ok
  have fr : X.A.frames = some (X.env :: X.outer) := by rw [ok.frames, hs]
  refine wpAny_Try_except ?_
  refine wpAny_mono ((hb (wCl Wout D l) (X.pn ++ pins) (fun e s₁ => wpAny (model X.prog X.w) X.A (noteFrame e X.env) (fun _ s₂ => wpAny (model X.prog X.w) X.A (setFlight e none) (fun _ s₃ =>
    wpAny (model X.prog X.w) X.A (handleBy e X.env (c0 :: hds)) (SP X pins D) X.xe s₃) X.xe s₂) X.xe s₁) (fun u s' z => ?_) PassesOwn.looking).run [] s σ H D (I.toTry _) h) (fun f s1 z => ?_) (fun e s1 z => z)
  · obtain ⟨a, B, sI, pins', σ', H', cls, d, rfl, J', nb, up, sky, na, os, ag, w⟩ := z
    have J : L2.Inv X pins σ' H' sI := J'.ofTry ok
    have sky2 : Sky B (X.env :: X.outer) a (L2N.Zn cls d) X.env.locals s'.heap := by rw [← hs]; exact sky
    show wpAny (model X.prog X.w) X.A (noteFrame (.ref a) X.env) _ _ _
    exact L2N.Sky.land L2N.Zn.steady fr hf sky2 fun h3 fl3 up3 => clause_ok hs hf ok tk J nb na os ag hc fl3 (up.trans up3) w
  · cases f with
    | next => obtain ⟨σ', H', J', q⟩ := z; exact wpAny_execs_nil ⟨σ', H', J'.ofTry ok, q⟩
    | brk => obtain ⟨σ', H', J', q⟩ := z; exact ⟨σ', H', J'.ofTry ok, q⟩
    | cont => obtain ⟨σ', H', J', q⟩ := z; exact ⟨σ', H', J'.ofTry ok, q⟩
    | ret u => obtain ⟨v, σ', H', J', r, q⟩ := z; exact ⟨v, σ', H', J'.ofTry ok, r, q⟩
end
end DL
namespace DL
open PySem L2 PySem.Spec
def CatB (K : PySem.W.Frag) (mg : Str → Option Value) (tb : CT) (rt : List (Str × Bool)) (cs : Value → Option Bool) : Prop := ∀ c l, tb.lookup c = some l → ∃ C b, mg c = some (.ref C) ∧ rt.lookup c = some b ∧ cs (.ref C) = some b
def tsOf {ι : Type} (Xf : ι → Cx) (su : List Stmt) : Addr → Value → Option Addr → TS := fun a cls d D σ H => ∃ t : TS, (∀ b : SI Xf cls d, PSs (suF Xf a cls d b) su t) ∧ t D σ H
def sLost : Sf := fun _ => none
inductive ClD {ι : Type} (Xf : ι → Cx) (K : PySem.W.Frag) (mg : Str → Option Value) (M : Mk) (tb : CT) (mx : List Ty) (j : Nat) (mn : List Ty) : List ExceptHandler → List Cl → Sf → Prop
  | nil : ClD Xf K mg M tb mx j mn [] [] sLost
  | one {te : Expr} {cs : Value → Option Bool} {b0 : Stmt} {su : List Stmt} {p : Pos} {hs : List ExceptHandler} {l : List Cl} {f g : Sf} (rt : List (Str × Bool)) (t : ∀ i, TestOk (Xf i) te cs) (c : CatB K mg tb rt cs)
      (w : ∀ (a : Addr) (cls : Value) (d : Option Addr), PSsd (suF Xf a cls d) K M mx (b0 :: su) f mn) (r : ClD Xf K mg M tb mx j mn hs l g) :
      ClD Xf K mg M tb mx j mn (.ExceptHandler (some te) none (b0 :: su) p :: hs) (⟨cs, none, tsOf Xf (b0 :: su)⟩ :: l) (sIf (bT (e1 (gIsE rt) (eVar j))) f g)
  | as {te : Expr} {cs : Value → Option Bool} {b0 : Stmt} {su : List Stmt} {p : Pos} {hs : List ExceptHandler} {l : List Cl} {f g : Sf} {nm : Str} (rt : List (Str × Bool)) (t : ∀ i, TestOk (Xf i) te cs) (c : CatB K mg tb rt cs)
      (w : Suit Xf K mg M tb mx j (b0 :: su) f mn) (hN : ∀ i, (Xf i).N[j]? = some nm) (hl : ∀ i, HName (Xf i) nm) (r : ClD Xf K mg M tb mx j mn hs l g) :
      ClD Xf K mg M tb mx j mn (.ExceptHandler (some te) (some nm) (b0 :: su) p :: hs) (⟨cs, some j, tsOf Xf (b0 :: su)⟩ :: l) (sIf (bT (e1 (gIsE rt) (eVar j))) f g)
theorem stt_any {K : PySem.W.Frag} {m : List Ty} {G H : Hp} {σ : St} {e : En} {A : List Addr} {j : Nat} {d : PyData} (st : Stt K m G H σ e A) (hu : m[j]? = some .u) : Stt K m G H σ (e.set j d) A := by
  have hl := ownA_len st.own
  have hj : j < e.length := by have := (List.getElem?_eq_some_iff.mp hu).1; omega
  obtain ⟨v, hv⟩ : ∃ v, σ[j]? = some v := ⟨σ[j], List.getElem?_eq_getElem (by omega)⟩
  have := ownA_set0 st.own (t := .u) (d := d) (v := v) (.inl hu) (.u _ _)
  rw [set_id hu, set_id hv] at this
  exact ⟨this, st.nd, st.sub⟩
section
variable {ι : Type} {Xf : ι → Cx} {P : Program} {w : World} {K : PySem.W.Frag} {mg : Str → Option Value} {base : Heap} {n : Nat} [F : Fam Xf P w K mg base n]
variable {M : Mk} {m mn mx : List Ty} {pos : Pos} {body : List Stmt} {c0 : ExceptHandler} {hds : List ExceptHandler} {fb : Sf} {fs : Sf} {tb : CT} {j : Nat} {l : List Cl}
include F in
theorem clD_ok (h : ClD Xf K mg M tb mx j mn hds l fs) (i : ι) : ClsOk (Xf i) hds l := by
  induction h with
  | nil => exact .nil
  | one rt t c w r ih => exact .one (t i) (fun a oe cls d pn hz hv => pss_imp (pss_any (X := (Xf i).suite a ((a, oe) :: pn))) fun D σ H ⟨t, p, q⟩ => ⟨t, p ⟨i, oe, pn, hz, hv⟩, q⟩) ih
  | as rt t c w hN hl r ih => exact .as (t i) (F.nd i) (hN i) (hl i) (fun a oe cls d pn hz hv => pss_imp (pss_any (X := (Xf i).suite a ((a, oe) :: pn))) fun D σ H ⟨t, p, q⟩ => ⟨t, p ⟨i, oe, pn, hz, hv⟩, q⟩) ih
theorem ask_rt {rt : List (Str × Bool)} {f g : Sf} {e : En} {c : Str} {vs : List PyData} {b : Bool} (hj : j < e.length) (hb : rt.lookup c = some b) : sIf (bT (e1 (gIsE rt) (eVar j))) f g (e.set j (.tuple (.str c :: vs))) = (if b = true then f else g) (e.set j (.tuple (.str c :: vs))) := by
  have hv : eVar j (e.set j (.tuple (.str c :: vs))) = some (.tuple (.str c :: vs), e.set j (.tuple (.str c :: vs))) := by
    unfold eVar; rw [set_getD, if_pos hj]
  unfold sIf bT e1
  rw [hv]
  show (((rt.lookup c).bind fun b => some (PyData.bool b)).bind _ |>.bind _ |>.bind _) = _
  rw [hb]
  cases b <;> rfl
theorem clD_ask {G H G1 H1 : Hp} {σ σ1 : St} {e1 e' : En} {A A1 : List Addr} {o : Out} {D : Ends} {c : Str} {fl : List (Str × PyData)} {cls : Value} {dx : Option Addr} (hu : mx[j]? = some .u) (hp : j ∉ M.po) (un : uAt mn j = true) (ub : uAt M.b j = true) (uc : uAt M.c j = true)
    (s1 : Step A G H A1 G1 H1) (st1 : Stt K mx G1 H1 σ1 e1 A1) (p1 : Pin M.po σ σ1) (ex : ExAt K mg G1 c fl cls dx) (hl : tb.lookup c = some (fl.map (·.1))) (k : Fin K M mn A G H σ D e' o) :
    ∀ {hds : List ExceptHandler} {l : List Cl} {fs : Sf}, ClD Xf K mg M tb mx j mn hds l fs → fs (e1.set j (.tuple (.str c :: fl.map (·.2)))) = some (o, e') → wCl (fun _ _ _ _ => False) D l cls dx σ1 H1 := by
  intro hds l fs h
  have hjl : j < e1.length := by have := (List.getElem?_eq_some_iff.mp hu).1; have := (ownA_len st1.own).1; omega
  induction h with
  | nil => intro hf; cases hf
  | @one te cs b0 su p hs l2 f g rt t cb sw r ih =>
    intro hf
    obtain ⟨C, b, h1, h2, h3⟩ := cb c _ hl
    obtain ⟨C', fv, g1, rfl, _⟩ := ex
    rw [h1] at g1
    cases g1
    rw [ask_rt hjl h2] at hf
    refine ⟨b, h3, fun hb a ha => ?_, fun hb => ?_⟩
    · rw [if_pos hb] at hf
      obtain ⟨t2, q2, d2⟩ := (sw a (.ref C) dx).ex
      exact ⟨t2, q2, d2 (stt_any st1 hu) hf (k.back s1 p1)⟩
    · rw [if_neg (by rw [hb]; simp)] at hf
      exact ih hf
  | @as te cs b0 su p hs l2 f g nm rt t cb sw hN hk r ih =>
    intro hf
    obtain ⟨C, b, h1, h2, h3⟩ := cb c _ hl
    obtain ⟨C', fv, g1, rfl, g3, g4, g5, g6⟩ := ex
    rw [h1] at g1
    cases g1
    rw [ask_rt hjl h2] at hf
    refine ⟨b, h3, fun hb a ha => ?_, fun hb => ?_⟩
    · rw [if_pos hb] at hf
      have hjm : j < mx.length := (List.getElem?_eq_some_iff.mp hu).1
      have h7 : dx = none → fv = [] := fun z => by
        have := g4 z
        subst this
        simpa using g5
      obtain ⟨t2, q2, d2⟩ := (sw a (.ref C) dx fv c (by rw [g5]; exact hl) h1 h7).ex
      obtain ⟨A2, st2, hA2⟩ := stt_set st1 hjm (.e (a := a) (c := c) g3 g6) (Av := []) st1.nd
      refine ⟨t2, q2, d2 st2 hf ?_⟩
      have s2 : Step A1 G1 H1 A2 G1 H1 := ⟨Same.refl _, fun _ _ h _ => h, fun b hb => .inl (hA2 b hb), fun b hb ⟨o, ho⟩ => by rw [hb] at ho; cases ho⟩
      have pj : ∀ {σ2 : St}, Pin M.po (σ1.set j (some (.ref a))) σ2 → Pin M.po σ1 (σ2.set j none) := fun {σ2} hp2 => ((Pin.set hp).trans hp2).trans (Pin.set hp)
      match o, k with
      | .nx, k => exact fun G' H' σ' A' s' st' p' => k G' H' _ A' ((s1.seq0 s2).seq0 s') (stt_setn st' un) (p1.trans (pj p'))
      | .bk, k => exact fun G' H' σ' A' s' st' p' => k G' H' _ A' ((s1.seq0 s2).seq0 s') (stt_setn st' ub) (p1.trans (pj p'))
      | .ct, k => exact fun G' H' σ' A' s' st' p' => k G' H' _ A' ((s1.seq0 s2).seq0 s') (stt_setn st' uc) (p1.trans (pj p'))
      | .rt r, k => exact fun G' H' σ' v Av A' s' st' o' nd p' => k G' H' σ' v Av A' ((s1.seq0 s2).seq0 s') st' o' nd (p1.trans ((Pin.set hp).trans p'))
    · rw [if_neg (by rw [hb]; simp)] at hf
      exact ih hf
include F in
theorem ds_tryM (tb : CT) (j : Nat) (hc : ClD Xf K mg M tb mx j mn (c0 :: hds) l fs) (hb : ∀ W : WX, PSXs (tryF Xf W) W K mg M mx m body (decX tb fb) mn)
    (hu : mx[j]? = some .u := by rfl) (hp : j ∉ M.po := by first | decide | rfl | simp) (un : uAt mn j = true := by rfl) (ub : uAt M.b j = true := by rfl) (uc : uAt M.c j = true := by rfl)
    (hs : ∀ i, (Xf i).stack = (Xf i).env :: (Xf i).outer := by intro _; rfl) (hf : ∀ i, (Xf i).env.frame = some (Xf i).env.locals := by intro _; rfl) :
    PSd Xf K M m (.Try body (c0 :: hds) [] [] pos) (sTryB tb j fb fs) mn := by
  refine ds_imp (f := sTryA tb j (decX tb fb) fs) ?_ fun e r h => ?_
  · let tbW : WX → TS := fun W D σ H => ∃ t : TS, (∀ b : TI Xf W, PSs (tryF Xf W b) body t) ∧ t D σ H
    refine ⟨fun D σ H => tbW (wCl (fun _ _ _ _ => False) D l) D σ H, fun i => ?_, fun {G H σ e A o e' D} st hf' k => ?_⟩
    · exact ps_try_cl (X := Xf i) (pos := pos) (tb := tbW) (Wout := fun _ _ _ _ => False) (hs i) (hf i) takes0N
        (fun W pn xe tk ps => pss_imp (pss_any (X := (Xf i).tr pn xe) (st := body)) fun D σ H ⟨t, p, q⟩ => ⟨t, p ⟨i, pn, xe, tk, ps⟩, q⟩) (clD_ok hc i)
    · obtain ⟨⟨o1, e1⟩, hf1, hf2⟩ := oBs hf'
      obtain ⟨t, pt, dt⟩ := (hb (wCl (fun _ _ _ _ => False) D l)).ex
      refine ⟨t, pt, dt st hf1 ?_⟩
      match o1, hf2 with
      | .o x1, hf2 => cases hf2; exact k
      | .ex c fl, hf2 =>
        obtain ⟨hl, hf3⟩ := ite_some2 hf2
        exact fun G1 H1 σ1 A1 cls dx s1 st1 p1 ex => clD_ask hu hp un ub uc s1 st1 p1 ex hl k hc hf3
  · obtain ⟨⟨o, e1⟩, h1, h2⟩ := oBs h
    unfold sTryA decX
    rw [h1]
    cases o with
    | nx => exact h2
    | bk => exact h2
    | ct => exact h2
    | rt v =>
      obtain ⟨w, h5, h6⟩ := oBs h2
      obtain ⟨b, h7, h8⟩ := oBs h6
      rcases isOk_of h5 with ⟨d, hv, rfl⟩ | ⟨c, vs, l, hv, hl1, hl2, rfl⟩
      · subst hv
        cases h7
        rw [if_pos rfl] at h8
        exact h8
      · subst hv
        cases h7
        rw [if_neg (by simp)] at h8
        show (((decR tb (.tuple (.str c :: vs))).bind _ : Option (OutX × En))).bind _ = _
        rw [decR_ex hl1 hl2]
        show (if tb.lookup c = some ((l.zip vs).map (·.1)) then fs (e1.set j (.tuple (.str c :: (l.zip vs).map (·.2)))) else none) = _
        rw [zip_fst hl2, zip_snd hl2, if_pos hl1]
        exact h8
end
def sOff (f : Sf) : Sf := sSeq f (sRet (e1 gOk (eC .none)))
section
variable {ι : Type} {Xf : ι → Cx} {W : WX} {P : Program} {w : World} {K : PySem.W.Frag} {mg : Str → Option Value} {base : Heap} {n : Nat} [F : Fam Xf P w K mg base n]
variable {M : Mk} {m m1 m2 mn mx : List Ty} {pos p p2 spos : Pos} {a : Expr} {es : List Expr} {fr : Lf} {tys : List Ty} {L : List (Option Nat)} {tb : CT}
end
end DL
namespace DL
open PySem L2 PySem.Spec
@[simp] theorem rLost {e : En} : sLost e = none := rfl
@[simp] theorem rOff {f : Sf} {e : En} : sOff f e = sSeq f (sRet (e1 gOk (eC .none))) e := rfl
section
variable {ι : Type} {Xf : ι → Cx} {P : Program} {w : World} {K : PySem.W.Frag} {mg : Str → Option Value} {base : Heap} {n : Nat} [F : Fam Xf P w K mg base n]
variable {x1 x2 x3 x4 : Str} {c1 c2 c3 c4 : Value} {p1 p2 p3 p4 tp : Pos} {k : Nat}
include F in
theorem nm_of {x : Str} {c : Value} (hm : mg x = some c) (hg : ∀ i, Gl (Xf i) x := by intro _; rfl) (hd : (x == ("__debug__" : Str)) = false := by decide) (i : ι) : Names (Xf i) x c := ⟨hg i, hd, .inl (by rw [F.mg_ i]; exact hm)⟩
include F in
theorem tst1 (m1 : mg x1 = some c1) (h1 : ∀ i, Gl (Xf i) x1 := by intro _; rfl) (d1 : (x1 == ("__debug__" : Str)) = false := by decide) : ∀ i, TestOk (Xf i) (.Name x1 p1) (fun cls => PySem.W.exmOne K cls c1) := fun i => by
  have q := test_one (X := Xf i) (np := p1) (nm_of m1 h1 d1 i); rw [F.kk i] at q; exact q
end
end DL
namespace DL
open PySem L2 PySem.Spec
structure ExcZ (P : Program) (w : World) (K : PySem.W.Frag) (mg : Str → Option Value) (x : Str) : Prop where
  ex : ∃ C : Addr, mg x = some (.ref C) ∧ ∀ (X : Cx) (p pos : Pos), X.prog = P → X.w = w → X.K = K → X.mg = mg → Gl X x → (x == ("__debug__" : Str)) = false → L2N.PMk X (.Call (.Name x p) [] [] pos) (fun _ H Q => Q (.ref C) none H)
section
variable {ι : Type} {Xf : ι → Cx} {W : WX} {P : Program} {w : World} {K : PySem.W.Frag} {mg : Str → Option Value} {base : Heap} {n : Nat} [F : Fam Xf P w K mg base n]
variable {M : Mk} {m mn mx : List Ty} {pos p spos : Pos} {tb : CT}
end
end DL
namespace DL
open PySem L2 PySem.Spec
def eOrT (f g : Ef) : Ef := fun e => (f e).bind fun p => (gTruth p.1).bind fun b => if b = true then some p else g p.2
@[simp] theorem rOrT {f g : Ef} {e : En} : eOrT f g e = (f e).bind fun p => (gTruth p.1).bind fun b => if b = true then some (p.1, p.2) else g p.2 := rfl
section
variable {ι : Type} {Xf : ι → Cx} {P : Program} {w : World} {K : PySem.W.Frag} {mg : Str → Option Value} {base : Heap} {n : Nat} [F : Fam Xf P w K mg base n]
variable {m m1 : List Ty} {pos : Pos} {a b : Expr} {f g : Ef} {rest : List Expr}
end
end DL
namespace DL
open PySem L2 PySem.Spec
def xUn (gg : PyData → Option PyData) (fx : EfX) : EfX := fun e => (fx e).bind fun p => match p.1 with
  | .ok d => (gg d).bind fun r => some (.ok r, p.2)
  | .ex c fs => some (.ex c fs, p.2)
def sRetE1 (tw : CT) (gg : PyData → Option PyData) (f : Ef) : Sf := fun e => (f e).bind fun p => (gIsOk tw p.1).bind fun w => (asB w).bind fun b => if b = true then (gUn p.1).bind fun d => (gg d).bind fun r => (gOk r).bind fun z => some (.rt z, p.2) else some (.rt p.1, p.2)
@[simp] theorem rRetE1 {tw : CT} {gg : PyData → Option PyData} {f : Ef} {e : En} : sRetE1 tw gg f e = (f e).bind fun p => (gIsOk tw p.1).bind fun w => (asB w).bind fun b => if b = true then (gUn p.1).bind fun d => (gg d).bind fun r => (gOk r).bind fun z => some (.rt z, p.2) else some (.rt p.1, p.2) := rfl
section
variable {K : PySem.W.Frag} {mg : Str → Option Value} {m m1 : List Ty} {W : WX} {fx : EfX} {ty : Ty} {gg : PyData → Option PyData}
theorem DEX.un {r : V → Hp → VK → Prop} {ta : TE} (ha : DEX K mg m ta .s fx m1 W) (hr : D1 K r ty gg) : DEX K mg m (fun σ H Q => ta σ H fun x H1 => r x H1 Q) ty (xUn gg fx) m1 W := by
  intro G H σ e A res e' Q st hf k
  obtain ⟨⟨r1, e1⟩, hf1, hf⟩ := oBs hf
  refine ha st hf1 ?_
  cases r1 with
  | ok d =>
    obtain ⟨d3, hf3, hf⟩ := oBs (show (gg d).bind _ = _ from hf)
    cases hf
    intro G1 H1 v1 A1 B1 s1 st1 o1 nd1
    cases o1 with
    | s q1 => exact hr st1 q1 hf3 fun G3 H3 v3 A3 B3 s3 st3 o3 nd3 => k G3 H3 v3 A3 B3 (s1.seq0 s3) st3 o3 nd3
  | ex c fs => cases hf; exact k
end
section
variable {ι : Type} {Xf : ι → Cx} {W : WX} {P : Program} {w : World} {K : PySem.W.Frag} {mg : Str → Option Value} {base : Heap} {n : Nat} [F : Fam Xf P w K mg base n]
variable {M : Mk} {m m1 mn mx : List Ty} {pos p p2 p3 cp : Pos} {a : Expr} {es : List Expr} {fr : Lf} {tys : List Ty} {L : List (Option Nat)} {tb tw tG : CT} {fx : EfX} {Fn : DFn} {gg : PyData → Option PyData} {ty : Ty}
end
end DL
namespace DL
open PySem L2 PySem.Spec
def gUpdE (d s : PyData) : Option PyData := match d, s with
  | .dict kvs, .dict more => (dictI kvs).bind fun ds => (dictI more).bind fun es => if kvs.length + es.length < 100000 then some (.dict ((joinI es ds).map kvD)) else none
  | _, _ => none
def gDKeys (d : PyData) : Option PyData := match d with
  | .dict kvs => some (.list (kvs.map (·.1)))
  | _ => none
def eDKeys (j : Nat) : Ef := fun e => (gDKeys (e.getD j .none)).bind fun d => some (d, e)
@[simp] theorem rDKeys {j : Nat} {e : En} : eDKeys j e = (gDKeys (e.getD j .none)).bind fun d => some (d, e) := rfl
def eUpdE (j : Nat) (f : Ef) : Ef := fun e => (f e).bind fun p => (gUpdE (p.2.getD j .none) p.1).bind fun d => some (.none, p.2.set j d)
@[simp] theorem rUpdE {j : Nat} {f : Ef} {e : En} : eUpdE j f e = (f e).bind fun p => (gUpdE (p.2.getD j .none) p.1).bind fun d => some (.none, p.2.set j d) := rfl
section
variable {K : PySem.W.Frag} {G H G1 H1 : Hp} {m m1 m2 mn : List Ty} {σ : St} {e : En} {A A1 : List Addr} {t : Ty} {ts : List Ty}
end
section
variable {ι : Type} {Xf : ι → Cx} {P : Program} {w : World} {K : PySem.W.Frag} {mg : Str → Option Value} {base : Heap} {n : Nat} [F : Fam Xf P w K mg base n]
variable {m m1 m2 m3 : List Ty} {pos p p2 apos cpos xp : Pos} {a b c e : Expr} {f g h : Ef}
end
end DL
namespace DL
open PySem L2 PySem.Spec
section
variable {K : PySem.W.Frag} {G H : Hp} {m : List Ty} {σ : St} {e : En} {A : List Addr}
end
def zipNS : PyData → PyData → Option (List PyData)
  | .list xs, .tuple ys => some (zipD xs ys)
  | _, _ => none
def iZpN (f g : Ef) : Lf := fun e => (f e).bind fun p => (g p.2).bind fun q => (zipNS p.1 q.1).bind fun ds => some (ds, q.2)
section
variable {ι : Type} {Xf : ι → Cx} {P : Program} {w : World} {K : PySem.W.Frag} {mg : Str → Option Value} {base : Heap} {n : Nat} [F : Fam Xf P w K mg base n]
variable {m m1 m2 m3 : List Ty} {pos p p2 tpos : Pos} {a b c tg : Expr} {elts : List Expr} {kk : Nat} {f g h : Ef}
include F
end
@[simp] theorem riZpN {f g : Ef} {e : En} : iZpN f g e = (f e).bind fun p => (g p.2).bind fun q => (zipNS p.1 q.1).bind fun ds => some (ds, q.2) := rfl
@[simp] theorem xZipN {xs ys : List PyData} : zipNS (.list xs) (.tuple ys) = some (zipD xs ys) := rfl
end DL
namespace DL
open PySem L2 PySem.Spec
section
open PySem.Calls PyProof.Rows PyProof.V
end
def intVal : PyData → Option Int
  | .int i => some i
  | _ => none
def sameI : List (Int × PyData) → List (Int × PyData) → Option Bool
  | [], _ => some true
  | p :: r, es => (intVal p.2).bind fun i => match valI es p.1 with
    | none => some false
    | some d => (intVal d).bind fun j => (sameI r es).map fun b => (i == j) && b
def gDNe (a b : PyData) : Option PyData := match a, b with
  | .dict ka, .dict kb => (dictI ka).bind fun ds => (dictI kb).bind fun es => if ds.length = es.length then (sameI ds es).map fun r => .bool (!r) else some (.bool true)
  | _, _ => none
def eDNe (j : Nat) (f : Ef) : Ef := fun e => (f e).bind fun p => (gDNe p.1 (p.2.getD j .none)).bind fun d => some (d, p.2)
@[simp] theorem stb_dict : stb Ty.d = false := rfl
@[simp] theorem rDNe {j : Nat} {f : Ef} {e : En} : eDNe j f e = (f e).bind fun p => (gDNe p.1 (p.2.getD j .none)).bind fun d => some (d, p.2) := rfl
section
variable {K : PySem.W.Frag} {G H G1 H1 : Hp} {m m1 m2 mn : List Ty} {σ : St} {e : En} {A A1 : List Addr} {t : Ty} {ts : List Ty}
end
section
variable {ι : Type} {Xf : ι → Cx} {P : Program} {w : World} {K : PySem.W.Frag} {mg : Str → Option Value} {base : Heap} {n : Nat} [F : Fam Xf P w K mg base n]
variable {m m1 m2 m3 : List Ty} {pos p p2 apos cpos xp : Pos} {a b c e : Expr} {f g h : Ef}
end
end DL
namespace DL
open PySem L2 PySem.Spec
section
open PyProof.Rows PySem.Calls
variable {prog : Program} {w : World} {A : Around} {E : Value → Shared → Prop} {s : Shared} {K : PySem.W.Frag} {x C f : Addr} {ox : Obj} {odd : Option Obj}
end
section
variable {ι : Type} {Xf : ι → Cx} {P : Program} {w : World} {K : PySem.W.Frag} {mg : Str → Option Value} {base : Heap} {n : Nat} [F : Fam Xf P w K mg base n] [FG : FamG Xf]
variable {m m1 : List Ty} {pos p xp : Pos} {fr : Lf} {tys : List Ty} {L : List (Option Nat)} {C : Addr} {ns : List Str} {ts : List Ty}
end
end DL
namespace DL
open PySem L2 PySem.Spec
def joinS : Str → List PyData → Option Str
  | acc, [] => some acc
  | acc, .str y :: r => if (acc ++ y).length ≤ sizeLine then joinS (acc ++ y) r else none
  | _, _ :: _ => none
def gJs (ds : List PyData) : Option PyData := (joinS Str.empty ds).bind fun x => if x.length ≤ sizeLine then some (.str x) else none
def eJs (lf : Lf) : Ef := fun e => (lf e).bind fun p => (gJs p.1).bind fun d => some (d, p.2)
@[simp] theorem rJs {lf : Lf} {e : En} : eJs lf e = (lf e).bind fun p => (gJs p.1).bind fun d => some (d, p.2) := rfl
section
variable {ι : Type} {Xf : ι → Cx} {P : Program} {w : World} {K : PySem.W.Frag} {mg : Str → Option Value} {base : Heap} {n : Nat} [F : Fam Xf P w K mg base n]
variable {m m1 m2 : List Ty} {pos p : Pos} {a v1 v2 : Expr} {es rest : List Expr} {f : Ef} {lf : Lf}
structure PJD (Xf : ι → Cx) (K : PySem.W.Frag) (m : List Ty) (es : List Expr) (lf : Lf) (m1 : List Ty) : Prop where
  ex : ∃ ts : List TE, (∀ i, PJ (Xf i) es ts) ∧ ∀ {G H : Hp} {σ : St} {e e' : En} {A : List Addr} {ds : List PyData} {acc out : Str} {Q : Str → Hp → Prop}, Stt K m G H σ e A → lf e = some (ds, e') → joinS acc ds = some out →
    (∀ G' H' A', Step A G H A' G' H' → Stt K m1 G' H' σ e' A' → Q out H') → tJs ts acc σ H Q
end
end DL
namespace DL
open PySem L2 PySem.Spec
section
open PyProof.Rows
variable {X : Cx} {e : Expr} {te : TE} {p apos cpos pos : Pos}
end
section
variable {K : PySem.W.Frag} {G H G1 H1 : Hp} {m m1 m2 mn : List Ty} {σ : St} {e : En} {A A1 : List Addr}
end
section
variable {ι : Type} {Xf : ι → Cx} {P : Program} {w : World} {K : PySem.W.Frag} {mg : Str → Option Value} {base : Heap} {n : Nat} [F : Fam Xf P w K mg base n]
variable {m m1 : List Ty} {pos p apos cpos : Pos} {a : Expr} {f : Ef}
end
end DL
namespace DL
open PySem L2 PySem.Spec
def spY (K : PySem.W.Frag) (mg : Str → Option Value) (ptys : List Ty) (rty : Ty) (tb : CT) (Fn : DFn) : Sp := fun vs H Q E =>
  ∃ (ds : List PyData) (d : PyData) (fs : List PyData) (r : Res) (G : Hp) (A : List Addr), Fn ds = some (d, fs) ∧ decR tb d = some r ∧ OwnA K G H ptys ds (vs.map some) A ∧ A.Nodup ∧ Same G H ∧ match r with
    | .ok d1 => ∀ (G' H' : Hp) (v : V) (Av A' : List Addr), Step A G H (Av ++ A') G' H' → OwnA K G' H' ptys fs (vs.map some) A' → Own K G' H' rty d1 (some v) Av → (Av ++ A').Nodup → Same G' H' → Q v H'
    | .ex c fl => ∀ (G' H' : Hp) (A' : List Addr) (cls : Value) (dx : Option Addr), Step A G H A' G' H' → OwnA K G' H' ptys fs (vs.map some) A' → A'.Nodup → ExAt K mg G' c fl cls dx → Same G' H' → E cls dx H'
structure CalMX (P : Program) (w : World) (K : PySem.W.Frag) (mg : Str → Option Value) (base : Heap) (k : Nat) (C : Addr) (x : Str) (ptys : List Ty) (rty : Ty) (tb : CT) (Fn : DFn) : Prop where
  ex : ∃ (f : Addr) (fd : FuncData) (ps : List Str), FnX P w K mg base k f fd ps (spY K mg ptys rty tb Fn) ∧ Meth K C x f ∧ Binds K fd ps []
section
variable {K : PySem.W.Frag} {mg : Str → Option Value} {m m1 m2 : List Ty} {fr : Lf} {tys : List Ty} {L : List (Option Nat)} {W : WX} {tb : CT}
end
section
variable {ι : Type} {Xf : ι → Cx} {P : Program} {w : World} {K : PySem.W.Frag} {mg : Str → Option Value} {base : Heap} {n : Nat} [F : Fam Xf P w K mg base n] [FG : FamG Xf] {W : WX}
variable {m m1 : List Ty} {pos apos xp : Pos} {a : Expr} {es : List Expr} {fr : Lf} {tys : List Ty} {L : List (Option Nat)} {C : Addr} {ns : List Str} {ts : List Ty} {tb : CT}
end
def sAsgE1 (tw : CT) (j : Nat) (gg : PyData → Option PyData) (f : Ef) : Sf := fun e => (f e).bind fun p => (gIsOk tw p.1).bind fun w => (asB w).bind fun b => if b = true then (gUn p.1).bind fun d => (gg d).bind fun r => some (.nx, p.2.set j r) else some (.rt p.1, p.2)
section
variable {tw tG tb : CT} {j : Nat} {call : Ef} {fx : EfX}
end
section
variable {ι : Type} {Xf : ι → Cx} {W : WX} {P : Program} {w : World} {K : PySem.W.Frag} {mg : Str → Option Value} {base : Heap} {n : Nat} [F : Fam Xf P w K mg base n]
variable {M : Mk} {m m1 m2 mn mx ml : List Ty} {pos p p2 p3 cp spos np np2 pos' zp lp : Pos} {v : Expr} {fx : EfX} {call : Ef} {tb tw tG : CT} {rty ty : Ty} {z : Str} {jz : Nat}
end
end DL
namespace DL
open PySem L2 PySem.Spec
section
variable {K : PySem.W.Frag} {m : List Ty} {G H G' H' : Hp} {σ : St} {e : En} {A : List Addr}
theorem rd_stt (st : Stt K m G H σ e A) (s : Step [] G H [] G' H') (sub : Same G' H') : Step A G H A G' H' ∧ Stt K m G' H' σ e A := by
  have s0 : Step A G H (A ++ []) G H := by rw [List.append_nil]; exact Step.refl
  obtain ⟨s1, nd1, hg, hh⟩ := s0.seq (ownA_at st.own) (by rw [List.append_nil]; exact st.nd) s List.nodup_nil
  rw [List.append_nil] at s1
  exact ⟨s1, ownA_fr st.own s.sg hg hh, st.nd, sub⟩
end
def DRV (K : PySem.W.Frag) (m : List Ty) (te : TE) (f : Ef) : Prop := ∀ {G H : Hp} {σ : St} {e : En} {A : List Addr} {d : PyData} {e' : En} {Q : VK}, Stt K m G H σ e A → f e = some (d, e') →
  (e' = e → ∀ (G' H' : Hp) (v : V), Step [] G H [] G' H' → Same G' H' → Dq K G' v d → Q v H') → te σ H Q
def DRL (K : PySem.W.Frag) (m : List Ty) (k : Nat) (ta : TA) (f : Lf) : Prop := ∀ {G H : Hp} {σ : St} {e : En} {A : List Addr} {ds : List PyData} {e' : En} {Q : List V → Hp → Prop}, Stt K m G H σ e A → f e = some (ds, e') →
  (e' = e → ds.length = k → ∀ (G' H' : Hp) (vs : List V), Step [] G H [] G' H' → Same G' H' → DqA K G' vs ds → Q vs H') → ta σ H Q
def DRX (K : PySem.W.Frag) (mg : Str → Option Value) (m : List Ty) (te : TE) (f : EfX) (W : WX) : Prop := ∀ {G H : Hp} {σ : St} {e : En} {A : List Addr} {r : Res} {e' : En} {Q : VK}, Stt K m G H σ e A → f e = some (r, e') →
  (match r with
  | .ok d => e' = e → ∀ (G' H' : Hp) (v : V), Step [] G H [] G' H' → Same G' H' → Dq K G' v d → Q v H'
  | .ex c fs => e' = e → ∀ (G' H' : Hp) (cls : Value) (dx : Option Addr), Step [] G H [] G' H' → Same G' H' → ExAt K mg G' c fs cls dx → W cls dx σ H') → te σ H Q
structure PRV {ι : Type} (Xf : ι → Cx) (K : PySem.W.Frag) (m : List Ty) (a : Expr) (f : Ef) : Prop where
  ex : ∃ te : TE, (∀ i, PE (Xf i) a te) ∧ DRV K m te f
structure PRL {ι : Type} (Xf : ι → Cx) (K : PySem.W.Frag) (m : List Ty) (k : Nat) (es : List Expr) (f : Lf) : Prop where
  ex : ∃ ta : TA, (∀ i, PA (Xf i) es ta) ∧ DRL K m k ta f
structure PRX {ι : Type} (Xf : ι → Cx) (W : WX) (K : PySem.W.Frag) (mg : Str → Option Value) (m : List Ty) (a : Expr) (f : EfX) : Prop where
  ex : ∃ te : TE, (∀ i, PE (Xf i) a te) ∧ DRX K mg m te f W
section
variable {K : PySem.W.Frag} {mg : Str → Option Value} {m : List Ty} {f g : Ef} {fr : Lf} {k : Nat} {W : WX}
theorem grow_step {G H H1 : Hp} (s : Same H H1) : Step [] G H [] G H1 := ⟨Same.refl G, fun a o h _ => s a o h, fun _ h => .inl h, fun a h ⟨o, z⟩ => by rw [h] at z; cases z⟩
theorem DRV.itm {te ti : TE} {g gi : Gq} {pt : Pf} (hp : DPl K m te (.l .s) g pt) (hi : DQv K m ti gi) : DRV K m (tOp (rIxL K) te ti) (eItm g gi) := by
  intro G H σ e A d e' Q st hf kk
  obtain ⟨dl, h1, hf⟩ := oBs hf
  obtain ⟨di, h2, hf⟩ := oBs hf
  obtain ⟨a, Ad, Ar, hp1, o1, ev, back⟩ := hp st h1
  cases o1 with
  | @l _ _ vs ds Ai ga ha hz oi =>
    cases di with
    | int i =>
      obtain ⟨x, hx, hf⟩ := Option.map_eq_some_iff.mp hf
      cases hf
      obtain ⟨j, hj, hx⟩ := oBs (show (ixN ds.length i).bind _ = _ from hx)
      obtain ⟨rfl, qi⟩ := of_ownA oi
      obtain ⟨v, hv, qv⟩ := qi.get hx
      refine ev fun H1 s1 => hi (stt_grow st s1).2 h2 fun H2 y s2 qy => ?_
      cases qy
      have s12 := s1.trans s2
      exact ⟨a, vs, i, v, rfl, rfl, .inl (.inl (s12 _ _ ha)), by unfold atI; rw [qi.1, hj]; exact hv, kk rfl G H2 v (grow_step s12) (fun b o hb => s12 _ _ (st.sub b o hb)) qv⟩
    | _ => cases hf
theorem DRL.nil : DRL K m 0 tNil lNil := by
  intro G H σ e A ds e' Q st hf kk
  cases hf
  exact kk rfl rfl G H [] Step.refl st.sub DqA.nil
theorem DRL.cons {te : TE} {ta : TA} (h1 : DRV K m te f) (h2 : DRL K m k ta fr) : DRL K m (k + 1) (tCons te ta) (lCons f fr) := by
  intro G H σ e A ds e' Q st hf kk
  obtain ⟨⟨d1, e1⟩, hf1, hf⟩ := oBs hf
  obtain ⟨⟨ds1, e2⟩, hf2, hf⟩ := oBs hf
  cases hf
  refine h1 st hf1 fun z1 G1 H1 v s1 sub1 q1 => ?_
  subst z1
  obtain ⟨s1', st1⟩ := rd_stt st s1 sub1
  refine h2 st1 hf2 fun z2 l2 G2 H2 vs s2 sub2 q2 => ?_
  refine kk z2 (by rw [List.length_cons, l2]) G2 H2 (v :: vs) (s1.seq0 s2) sub2 (DqA.cons (q1.mono s2.sg) q2)
theorem DRV.call {ta : TA} {Fn : DFn} {tys : List Ty} (h : DRL K m k ta fr) (ht : tys = List.replicate k .s) : DRV K m (tCallG (spD K tys .s Fn) ta) (eCall Fn fr) := by
  intro G H σ e A d e' Q st hf kk
  obtain ⟨⟨ds, e1⟩, hf1, hf⟩ := oBs hf
  obtain ⟨⟨d1, fs⟩, hf2, hf⟩ := oBs hf
  cases hf
  refine h st hf1 fun z1 l1 G1 H1 vs s1 sub1 q1 => ?_
  subst ht l1
  refine ⟨ds, _, fs, G1, [], hf2, ownA_of q1, List.nodup_nil, sub1, fun G2 H2 v Av A' s2 o2 ov nd2 sub2 => ?_⟩
  have z : A' = [] := stab_nil o2 fun t ht => by rw [(List.mem_replicate.mp ht).2]; rfl
  subst z
  cases ov with
  | s q => exact kk z1 G2 H2 v (s1.seq0 s2) sub2 q
theorem DRX.call {ta : TA} {Fn : DFnX} {tys : List Ty} (h : DRL K m k ta fr) (ht : tys = List.replicate k .s) : DRX K mg m (tCallS (spX K mg tys .s Fn) (WE W) ta) (xCall Fn fr) W := by
  intro G H σ e A r e' Q st hf kk
  obtain ⟨⟨ds, e1⟩, hf1, hf⟩ := oBs hf
  obtain ⟨r1, hf2, hf⟩ := oBs hf
  cases hf
  refine h st hf1 fun z1 l1 G1 H1 vs s1 sub1 q1 => ?_
  subst ht l1
  refine ⟨ds, _, G1, hf2, ownA_of q1, sub1, ?_⟩
  cases r with
  | ok d =>
    intro G2 H2 v Av s2 ov nd2 sub2
    cases ov with
    | s q => exact kk z1 G2 H2 v (s1.seq0 s2) sub2 q
  | ex c fs =>
    intro G2 H2 cls dx s2 ex sub2
    exact kk z1 G2 H2 cls dx (s1.seq0 s2) sub2 ex
section
variable {ts : List Ty} {ns : List Str} {C : Addr} {fl : Str} {j : Nat}
end
end
section
variable {ι : Type} {Xf : ι → Cx} {P : Program} {w : World} {K : PySem.W.Frag} {mg : Str → Option Value} {base : Heap} {n : Nat} [F : Fam Xf P w K mg base n]
variable {m m1 : List Ty} {pos p xp fpos apos cpos : Pos} {a b v : Expr} {es : List Expr} {f : Ef} {fr : Lf} {k : Nat} {g gi : Gq} {pt : Pf} {tys : List Ty} {W : WX} {fx : EfX}
variable {ts : List Ty} {ns : List Str} {C : Addr} {fl : Str}
end
def sAppE (tw : CT) (j k : Nat) (call : Ef) : Sf := fun e => (call e).bind fun p => (gIsOk tw p.1).bind fun w => (asB w).bind fun b => if b = true then (gUn p.1).bind fun d => (gAppF k (e.getD j .none) d).bind fun d2 => some (.nx, p.2.set j d2) else some (.rt p.1, p.2)
section
variable {ι : Type} {Xf : ι → Cx} {W : WX} {P : Program} {w : World} {K : PySem.W.Frag} {mg : Str → Option Value} {base : Heap} {n : Nat} [F : Fam Xf P w K mg base n]
variable {M : Mk} {m m1 mx : List Ty} {p2 : Pos} {v : Expr} {fx : EfX} {call : Ef} {tb tw tG : CT} {j k : Nat}
end
structure CalMK (P : Program) (w : World) (K : PySem.W.Frag) (mg : Str → Option Value) (base : Heap) (k : Nat) (C : Addr) (x kw : Str) (ty0 : Ty) (rty : Ty) (Fn : DFn) : Prop where
  ex : ∃ (f : Addr) (fd : FuncData) (ps : List Str) (ds : List Value), FnG P w K mg base k f fd ps (spD K [ty0, .s] rty Fn) ∧ Meth K C x f ∧ Vals [V.non] ds ∧ Binds K fd ps ds ∧ ∀ (s : Shared) (u v : Value), BindsTo s fd ⟨[u], [(kw, v)]⟩ (ps.zip [u, v])
section
variable {ι : Type} {Xf : ι → Cx} {P : Program} {w : World} {K : PySem.W.Frag} {mg : Str → Option Value} {base : Heap} {n : Nat} [F : Fam Xf P w K mg base n] [FG : FamG Xf]
variable {m : List Ty} {pos apos xp : Pos} {C : Addr} {ns : List Str} {ts : List Ty} {ty0 : Ty}
end
structure CalYF (P : Program) (w : World) (K : PySem.W.Frag) (mg : Str → Option Value) (base : Heap) (k : Nat) (x : Str) (ptys : List Ty) (rty : Ty) (tb : CT) (Fn : DFn) : Prop where
  ex : ∃ (f : Addr) (fd : FuncData) (ps : List Str), FnX P w K mg base k f fd ps (spY K mg ptys rty tb Fn) ∧ mg x = some (.ref f) ∧ PySem.W.keepIn K (.ref f) = true ∧ Binds K fd ps []
section
variable {ι : Type} {Xf : ι → Cx} {W : WX} {P : Program} {w : World} {K : PySem.W.Frag} {mg : Str → Option Value} {base : Heap} {n : Nat} [F : Fam Xf P w K mg base n] [FG : FamG Xf]
variable {m m1 : List Ty} {pos p : Pos} {a : Expr} {es : List Expr} {fr : Lf} {tys : List Ty} {L : List (Option Nat)} {tb : CT}
end
end DL
namespace DL
open PySem L2 PySem.Spec
structure PinX (outer : List Env) (H : Hp) (s : Shared) (a : Addr) (oe : Obj) : Prop where
  get : s.heap.get? a = some oe
  free : H a = none
  nofs : a ∉ frs outer
  nocell : ∀ v, oe.data ≠ .cell v
structure FnW (P : Program) (w : World) (K : PySem.W.Frag) (mg : Str → Option Value) (base : Heap) (k : Nat) (f : Addr) (fd : FuncData) (ps : List Str) (a : Addr) (cls : Value) (d : Option Addr) (sp : Sp) : Prop where
  len : ∀ vs H Q E, sp vs H Q E → vs.length = ps.length
  run : ∀ (A : Around) (outer : List Env) (s : Shared) (H : Hp) (args : Args) (us : List Value) (vs : List V) (Q : VK) (E : XK) (oe : Obj), RoomU k A → A.guards = some [] → A.handled = some (.ref a) → PinX outer H s a oe → L2N.Zn cls d oe → (∃ xs, oe.data = .fields xs) → Env0 P w K mg base A outer s H → BindsTo s fd args (ps.zip us) → Vals vs us → sp vs H Q E →
    codeAny (model P w) A (.call (.ref f) args) (CR CX0 outer P w H s Q E) s
structure CalW (P : Program) (w : World) (K : PySem.W.Frag) (mg : Str → Option Value) (base : Heap) (k : Nat) (x : Str) (ptys : List Ty) (rty : Ty) (Fn : DFn) (a : Addr) (cls : Value) (d : Option Addr) : Prop where
  ex : ∃ (f : Addr) (fd : FuncData) (ps : List Str), FnW P w K mg base k f fd ps a cls d (spD K ptys rty Fn) ∧ mg x = some (.ref f) ∧ PySem.W.keepIn K (.ref f) = true ∧ Binds K fd ps []
section
variable {ι : Type} {Xf : ι → Cx} {P : Program} {w : World} {K : PySem.W.Frag} {mg : Str → Option Value} {base : Heap} {n : Nat} [F : Fam Xf P w K mg base n] [FD : FamD Xf] {a0 : Addr} {cls : Value} {d0 : Option Addr}
variable {m m1 : List Ty} {pos p : Pos} {a : Expr} {es : List Expr} {fr : Lf} {tys : List Ty} {L : List (Option Nat)}
end
end DL
namespace DL
open PySem L2 PySem.Spec
def eLstP (g : Gq) : Ef := fun e => (g e).bind fun d => (gList d).bind fun r => some (r, e)
section
variable {K : PySem.W.Frag} {m : List Ty} {g : Gq} {pt : Pf}
end
section
variable {ι : Type} {Xf : ι → Cx} {P : Program} {w : World} {K : PySem.W.Frag} {mg : Str → Option Value} {base : Heap} {n : Nat} [F : Fam Xf P w K mg base n]
variable {m : List Ty} {pos p : Pos} {a : Expr} {g : Gq} {pt : Pf}
end
end DL
namespace DL
open PySem L2 PySem.Spec PyProof.Rows
def gChr : PyData → Option (List PyData)
  | .str z => some (z.cps.toList.map fun c => .str ⟨#[c]⟩)
  | _ => none
def iChr (f : Ef) : Lf := fun e => (f e).bind fun p => (gChr p.1).bind fun ds => some (ds, p.2)
@[simp] theorem riChr {f : Ef} {e : En} : iChr f e = (f e).bind fun p => (gChr p.1).bind fun ds => some (ds, p.2) := rfl
section
variable {ι : Type} {Xf : ι → Cx} {P : Program} {w : World} {K : PySem.W.Frag} {mg : Str → Option Value} {base : Heap} {n : Nat} [F : Fam Xf P w K mg base n]
variable {m m1 m2 : List Ty} {pos p apos : Pos} {a b tg : Expr} {rest : List Expr} {f g : Ef}
end
end DL
namespace DLQ
open PySem PyProof PySem.SeqAt PySem.MeetsSeq PySem.MeetsSeq2 PySem.MeetsSeq3
section
variable {A : Around} {s : Shared}
end
end DLQ
namespace DL
open PySem L2 PySem.Spec PyProof.Rows
section
variable {ι : Type} {Xf : ι → Cx} {P : Program} {w : World} {K : PySem.W.Frag} {mg : Str → Option Value} {base : Heap} {n : Nat} [F : Fam Xf P w K mg base n]
include F
end
end DL
namespace DL
open PySem L2 PySem.Spec
def gBlO : PyData → Option PyData
  | .bool b => some (.bool b)
  | _ => none
def eEqO (Fn : DFn) (f g : Ef) : Ef := fun e => (f e).bind fun p => (g p.2).bind fun q => (Fn [p.1, q.1]).bind fun r => (gBlO r.1).bind fun d => some (d, q.2)
@[simp] theorem rEqO' {Fn : DFn} {f g : Ef} {e : En} : eEqO Fn f g e = (f e).bind fun p => (g p.2).bind fun q => (Fn [p.1, q.1]).bind fun r => (gBlO r.1).bind fun d => some (d, q.2) := rfl
section
variable {ι : Type} {Xf : ι → Cx} {P : Program} {w : World} {K : PySem.W.Frag} {mg : Str → Option Value} {base : Heap} {n : Nat} [F : Fam Xf P w K mg base n] [FG : FamG Xf]
variable {C : Addr} {ns : List Str} {tys : List Ty} {rty : Ty} {Fn : DFn} {k : Nat}
end
section
variable {K : PySem.W.Frag} {m m1 m2 : List Ty} {C : Addr} {ns : List Str} {f g : Ef} {Fn : DFn}
end
section
variable {ι : Type} {Xf : ι → Cx} {P : Program} {w : World} {K : PySem.W.Frag} {mg : Str → Option Value} {base : Heap} {n : Nat} [F : Fam Xf P w K mg base n]
variable {m m1 m2 : List Ty} {pos p p2 xp : Pos} {a b : Expr} {f g : Ef} {C D : Addr} {ns : List Str} {ts : List Ty}
structure IsO (K : PySem.W.Frag) (mg : Str → Option Value) (C D : Addr) (y : Str) (t : Bool) : Prop where
  ca : PySem.W.findIn K (.ref C) "__class__" = some (some (.builtin "object.__class__"))
  cn : PySem.W.specialIn K (.builtin "object.__class__") "__get__" = some (some (.builtin "getset_descriptor.__get__"))
  ct : PySem.W.takesIn K (.builtin "object.__class__") = some true
  cm : PySem.W.mroIn K C (.type "object") = some true
  gy : mg y = some (.ref D)
  k1 : PySem.W.kitOne K (.ref C) (.ref D) = some t
end
end DL
namespace DL
open PySem L2 PySem.Spec
section
variable {K : PySem.W.Frag} {mg : Str → Option Value} {m m1 : List Ty} {W : WX} {fx : EfX} {ty : Ty}
end
section
variable {tw tG tb : CT} {call : Ef} {fx : EfX} {gg : PyData → Option PyData}
end
section
variable {ι : Type} {Xf : ι → Cx} {W : WX} {P : Program} {w : World} {K : PySem.W.Frag} {mg : Str → Option Value} {base : Heap} {n : Nat} [F : Fam Xf P w K mg base n]
variable {M : Mk} {m m1 mn mx : List Ty} {pos p p2 p3 cp zp bp : Pos} {a v : Expr} {tb tw tG : CT} {fx : EfX} {call : Ef} {gg : PyData → Option PyData} {ty : Ty} {jz : Nat}
end
end DL
namespace DL
open PySem L2 PySem.Spec
section
variable {ι : Type} {Xf : ι → Cx} {P : Program} {w : World} {K : PySem.W.Frag} {mg : Str → Option Value} {base : Heap} {n : Nat} [F : Fam Xf P w K mg base n] [FG : FamG Xf]
variable {m m1 : List Ty} {pos apos xp kpos : Pos} {C : Addr} {ns : List Str} {ts : List Ty} {ty0 : Ty} {a : Expr} {f : Ef}
end
end DL
namespace DL
open PySem L2 PySem.Spec
section
variable {K : PySem.W.Frag} {m mf : List Ty}
end
section
variable {ι : Type} {Xf : ι → Cx} {P : Program} {w : World} {K : PySem.W.Frag} {mg : Str → Option Value} {base : Heap} {n : Nat} [F : Fam Xf P w K mg base n]
variable {m m1 m2 : List Ty} {pos : Pos} {a b : Expr} {f g : Ef} {C : Addr} {ns : List Str}
end
end DL
namespace DL
open PySem L2 PySem.Spec
def dcL (vs : List Nat) (gf : Gf) (tf : Bf) (kf vf : Ef) : List PyData → List (Int × PyData) → En → Option (List (Int × PyData) × En)
  | [], acc, e => some (acc, e)
  | d :: ds, acc, e => (gf d e).bind fun e1 => (tf e1).bind fun p => if p.1 = true then (kf p.2).bind fun q => (vf q.2).bind fun r => match q.1 with
    | .int i => dcL vs gf tf kf vf ds (putI acc i r.1) (restE e r.2 vs)
    | _ => none
    else dcL vs gf tf kf vf ds acc (restE e p.2 vs)
def eDc (it : Lf) (vs : List Nat) (gf : Gf) (tf : Bf) (kf vf : Ef) : Ef := fun e => (it e).bind fun p => (dcL vs gf tf kf vf p.1 [] p.2).bind fun q => some (.dict (q.1.map kvD), restE p.2 q.2 vs)
structure DcI (K : PySem.W.Frag) (mh : List Ty) (A1 : List Addr) (G1 H1 : Hp) (D : Addr) (ws : St) (Gc Hc : Hp) (e : En) (A : List Addr) (kvs : List (Int × V)) (acc : List (Int × PyData)) : Prop where
  step : Step A1 G1 H1 (D :: A) Gc Hc
  st : Stt K mh Gc Hc ws e A
  atD : Hc D = some (.dK (kvs.map kvV))
  gD : Gc D = none
  keys : kvs.map (·.1) = acc.map (·.1)
  q : DqA K Gc (kvs.map (·.2)) (acc.map (·.2))
  nd : (D :: A).Nodup
section
variable {K : PySem.W.Frag} {mh m2 : List Ty} {A1 : List Addr} {G1 H1 : Hp} {D : Addr} {ws : St}
theorem DcI.move {Gc Hc : Hp} {e : En} {A : List Addr} {kvs : List (Int × V)} {acc : List (Int × PyData)} (I : DcI K mh A1 G1 H1 D ws Gc Hc e A kvs acc) {B : List Addr} {G2 H2 : Hp} (s : Step A Gc Hc B G2 H2) (ndB : B.Nodup) :
    Step A1 G1 H1 (D :: B) G2 H2 ∧ (D :: B).Nodup ∧ H2 D = some (.dK (kvs.map kvV)) ∧ G2 D = none ∧ DqA K G2 (kvs.map (·.2)) (acc.map (·.2)) := by
  have o1 : ∀ a ∈ [D], Gc a = none ∧ ∃ o, Hc a = some o := fun a ha => by
    rw [List.mem_singleton.mp ha]
    exact ⟨I.gD, _, I.atD⟩
  obtain ⟨s3, nd3, hg, hh⟩ := Step.seq (Av := [D]) I.step o1 I.nd s ndB
  exact ⟨s3, nd3, by rw [hh D (List.mem_cons_self ..)]; exact I.atD, hg D (List.mem_cons_self ..), I.q.mono s.sg⟩
end
section
variable {ι : Type} {Xf : ι → Cx} {P : Program} {w : World} {K : PySem.W.Frag} {mg : Str → Option Value} {base : Heap} {n : Nat} [F : Fam Xf P w K mg base n]
variable {m m1 m2 m3 : List Ty} {pos p p2 tpos : Pos} {kx vx iter tg : Expr} {ifs : List Expr} {scope : Scope} {own : List (Str × Nat)} {sl : List Nat} {gf : Gf} {it : Lf} {tf : Bf} {kf vf : Ef}
theorem DE.dc {wk : Bool} {wi : L2.TI} {g : TG} {tt : TT} {tk tv : TE} {vs : List Nat} (hi : DI K wk m wi it m1) (hg : DG K wk (hideM m1 vs) g sl gf m2) (ht : DT K m2 tt tf m2) (hk : DE K m2 tk .s kf m2) (he : DE K m2 tv .s vf m2) (us : usB m1 vs = true) (hs : ∀ j ∈ sl, j ∈ vs) (le : LeM m2 (hideM m1 vs)) :
    DE K m (tDc wi g tt tk tv vs) .d (eDc it vs gf tf kf vf) m1 := by
  intro G H σ e A d e' Q st hf k
  unfold eDc at hf
  obtain ⟨⟨ds, e1⟩, hf1, hf⟩ := oBs hf
  obtain ⟨⟨rs, ef1⟩, hf2, hf⟩ := oBs hf
  cases hf
  refine hi st hf1 fun G1 H1 A1 J s1 st1 wk hz => ?_
  intro D hD
  have own1 := wipeA st1.own us
  have st1' : Stt K (hideM m1 vs) G1 H1 (wipe σ vs) e1 A1 := ⟨own1, st1.nd, st1.sub⟩
  obtain ⟨s2, st2, nd2, gD⟩ := new_o (o := .dK []) (B := []) st1' hD
  let T := fun (i : Nat) (Hc : Hp) => ∃ Gc ec A' kvs acc, DcI K (hideM m1 vs) A1 G1 H1 D (wipe σ vs) Gc Hc ec A' kvs acc ∧ kvs.length ≤ i ∧ dcL vs gf tf kf vf (ds.drop i) acc ec = some (rs, ef1)
  refine ⟨fun i mm Hc => mm = ds.length - i ∧ i ≤ ds.length ∧ T i Hc, ⟨ds.length, by omega, Nat.zero_le _, G1, e1, A1, [], [], ⟨s2, st2, upd_same, gD, rfl, DqA.nil, nd2⟩, Nat.le_refl _, hf2⟩, ?_⟩
  rintro i mm Hc ⟨rfl, hle, Gc, ec, A', kvs, acc, I, hda, hl⟩
  have sub1 : Same G1 Hc := I.step.sg.trans I.st.sub
  by_cases hi : i < ds.length
  · refine .inr ⟨wk.goes i Hc hi sub1, fun Hn => i < ds.length ∧ T (i + 1) Hn, fun Hn hn => ⟨ds.length - (i + 1), by omega, rfl, by omega, hn.2⟩, fun x Hy hy => ?_⟩
    obtain ⟨Gy, sy, sty, sgy, qy⟩ := wk.yields hi I.step.sg I.st hy
    have hd : ds.drop i = ds[i] :: ds.drop (i + 1) := List.drop_eq_getElem_cons hi
    rw [hd] at hl
    unfold dcL at hl
    obtain ⟨e2, hl1, hl⟩ := oBs hl
    obtain ⟨⟨b, e3⟩, hl2, hl⟩ := oBs hl
    refine hg sty (qy _ (List.getElem?_eq_getElem hi)) hl1 fun G3 H3 σ3 A3 s3 st3 k3 l3 => ⟨wipe_eq hs k3 l3, ?_⟩
    have wσ := wipe_eq hs k3 l3
    refine ht st3 hl2 fun G4 H4 A4 s4 st4 => ?_
    have s34 := (sy.seq0 s3).seq0 s4
    have next : ∀ (G5 H5 : Hp) (A5 : List Addr) (e5 : En), Stt K m2 G5 H5 σ3 e5 A5 → ∃ G6 A6, Step A5 G5 H5 A6 G6 H5 ∧ Stt K (hideM m1 vs) G6 H5 (wipe σ vs) (restE ec e5 vs) A6 := fun G5 H5 A5 e5 st5 => by
      obtain ⟨G6, A6, s6, st6⟩ := stt_le le st5
      refine ⟨G6, A6, s6, ⟨?_, st6.nd, st6.sub⟩⟩
      have hidem : ∀ (us : List Nat) (e' : En) (σ' : St) {A : List Addr} {H : Hp} {G : Hp} {mm : List Ty}, OwnA K G H mm e' σ' A → (∀ v ∈ us, mm[v]? = some .u) → OwnA K G H mm (restE ec e' us) (wipe σ' us) A := by
        intro us
        induction us with
        | nil => intro e' σ' A H G mm h _; exact h
        | cons v us ih =>
          intro e' σ' A H G mm h hu
          unfold restE wipe
          have hv := hu v (List.mem_cons_self ..)
          have a := ownA_set0 (t := .u) (d := ec.getD v .none) (v := none) h (.inl hv) (.u _ _)
          rw [set_id hv] at a
          have b := ih _ _ a fun x hx => hu x (List.mem_cons_of_mem _ hx)
          have c : wipe (σ'.set v none) us = (wipe σ' us).set v none := by
            clear ih a b hv hu h
            induction us with
            | nil => rfl
            | cons u us ihu =>
              unfold wipe
              rw [ihu]
              by_cases q : u = v
              · subst q; rfl
              · rw [List.set_comm _ _ (fun z => q z.symm)]
          rw [c] at b; exact b
      have hu : ∀ v ∈ vs, (hideM m1 vs)[v]? = some .u := by
        have aux : ∀ us : List Nat, usB m1 us = true → ∀ v ∈ us, (hideM m1 us)[v]? = some .u := by
          intro us
          induction us with
          | nil => intro _ v h; cases h
          | cons u us ih =>
            intro hus v hv
            obtain ⟨h1, h2, h3⟩ := us_cons hus
            unfold hideM
            by_cases q : u = v
            · subst q
              have : u < (hideM m1 us).length := by
                rw [← hideM_get (m := m1) h2] at h1
                rcases h1 with z | z <;> exact (List.getElem?_eq_some_iff.mp z).1
              simp [this]
            · rw [List.getElem?_set_ne q]
              rcases List.mem_cons.mp hv with z | z
              · exact absurd z.symm q
              · exact ih h3 v z
        exact aux vs us
      have := hidem vs e5 σ3 st6.own hu
      rw [wσ] at this
      exact this
    cases b with
    | true =>
      rw [if_pos rfl] at hl ⊢
      obtain ⟨⟨dk, e4⟩, hl3, hl⟩ := oBs hl
      obtain ⟨⟨dy, e5⟩, hl4, hl⟩ := oBs hl
      refine hk st4 hl3 fun G4' H4' yk Ak A4' s4' st4' o4' nd4' => ?_
      cases o4' with
      | s qk =>
      refine he st4' hl4 fun G5 H5 y Ay A5 s5 st5 o5 nd5 => ?_
      cases o5 with
      | s qv =>
      cases dk with
      | int ki =>
        obtain ⟨G6, A6, s6, st6⟩ := next G5 H5 A5 e5 st5
        obtain ⟨s7, nd7, atD, gD7, q7⟩ := I.move (((s34.seq0 s4').seq0 s5).seq0 s6) st6.nd
        have qv6 : Dq K G6 y dy := qv.mono s6.sg
        have hyk : yk = kV (Sum.inl ki) := dq_int qk
        have hz' : kvs.length < sizeLine := by omega
        have nD : ∀ a ∈ A6, a ≠ D := fun a ha z => (List.nodup_cons.mp nd7).1 (z ▸ ha)
        have frD : ∀ a, a ≠ D → upd H5 D (.dK ((putI kvs ki y).map kvV)) a = H5 a := fun a ha => upd_ne ha
        refine ⟨kvs.map kvV, Sum.inl ki, hyk, atD, by rw [List.length_map]; exact hz', hi, G6, restE ec e5 vs, A6, putI kvs ki y, putI acc ki dy, ?_, ?_, hl⟩
        · rw [putK_map]
          refine ⟨⟨s7.sg, fun a o h ha => ?_, fun a ha => s7.own a ha, s7.gnew⟩, ⟨ownA_fr st6.own (Same.refl _) (fun a ha => (ownA_at st6.own a ha).1) fun a ha => frD a (nD a ha), st6.nd, fun b x hx => ?_⟩, upd_same, gD7, putI_keys I.keys ki y dy, put_rel ki qv6 I.keys q7, nd7⟩
          · rw [frD a (ne_of_none h hD)]; exact s7.fr a o h ha
          · rw [frD b (ne_of_none hx gD7)]; exact st6.sub b x hx
        · have := putI_len kvs ki y
          omega
      | _ => cases hl
    | false =>
      rw [if_neg (by simp)] at hl ⊢
      obtain ⟨G6, A6, s6, st6⟩ := next G4 H4 A4 e3 st4
      obtain ⟨s7, nd7, atD, gD7, q7⟩ := I.move (s34.seq0 s6) st6.nd
      exact ⟨hi, G6, restE ec e3 vs, A6, kvs, acc, ⟨s7, st6, atD, gD7, I.keys, q7, nd7⟩, by omega, hl⟩
  · have hie : i = ds.length := by omega
    subst hie
    refine .inl ⟨wk.stops Hc sub1, ?_⟩
    rw [List.drop_length] at hl
    cases hl
    have un := unwipeA (e' := ef1) st1.own I.step.sg us I.st.own
    refine k Gc Hc (.ref D) [D] A' (s1.seq0 ⟨I.step.sg, I.step.fr, I.step.own, I.step.gnew⟩) ⟨un, I.st.nd, I.st.sub⟩ (.d I.gD I.atD I.keys I.q ?_) I.nd
    omega
end
end DL
namespace DL
open PySem L2 PySem.Spec
def gItems : PyData → Option (List PyData)
  | .dict kvs => some (kvs.map fun p => .tuple [p.1, p.2])
  | _ => none
def iItF (j k : Nat) : Lf := fun e => (gSub1 (qVar j) (qC (.int (k : Nat))) e).bind fun d => (gItems d).bind fun ds => some (ds, e)
@[simp] theorem riItF {j k : Nat} {e : En} : iItF j k e = (gSub1 (qVar j) (qC (.int (k : Nat))) e).bind fun d => (gItems d).bind fun ds => some (ds, e) := rfl
section
variable {K : PySem.W.Frag} {G H H' : Hp} {a : Addr} {o : Obj} {kvs : List (Int × V)} {C : Addr} {ns : List Str} {ts : List Ty}
end
section
variable {K : PySem.W.Frag} {m mn : List Ty} {M : Mk} {j k : Nat} {C : Addr} {ns : List Str} {tys : List Ty}
end
section
variable {ι : Type} {Xf : ι → Cx} {P : Program} {w : World} {K : PySem.W.Frag} {mg : Str → Option Value} {base : Heap} {n : Nat} [F : Fam Xf P w K mg base n]
variable {m m1 mn : List Ty} {M : Mk} {C : Addr} {ns : List Str} {tys : List Ty}
end
section
variable {K : PySem.W.Frag} {G H : Hp} {m : List Ty} {a : Addr} {o : Obj} {kvs : List (Int × V)} {C : Addr} {ns : List Str} {tys : List Ty} {fl : Str} {j k : Nat}
end
section
variable {ι : Type} {Xf : ι → Cx} {P : Program} {w : World} {K : PySem.W.Frag} {mg : Str → Option Value} {base : Heap} {n : Nat} [F : Fam Xf P w K mg base n]
variable {m : List Ty} {ad : Addr} {ob : Obj} {kvs : List (Int × V)} {C : Addr} {ns : List Str} {tys : List Ty} {fl : Str} {pos xp fpos apos cpos tpos : Pos} {elts : List Expr} {kk : Nat}
end
end DL
namespace DL
open PySem L2 PySem.Spec
structure CalMV (P : Program) (w : World) (K : PySem.W.Frag) (mg : Str → Option Value) (base : Heap) (k : Nat) (C : Addr) (x : Str) (ns : List Str) (ts tys : List Ty) (rty : Ty) (Fn : DFn) : Prop where
  ex : ∃ (f : Addr) (fd : FuncData) (ps : List Str), (∀ v : V, FnG P w K mg base k f fd ps (spD K (.o C ns (.k v .s :: ts) :: tys) rty Fn)) ∧ Meth K C x f ∧ Binds K fd ps []
section
variable {P : Program} {w : World} {K : PySem.W.Frag} {mg : Str → Option Value} {base : Heap} {k : Nat} {f : Addr} {fd : FuncData} {ps : List Str} {C : Addr} {x : Str} {ns : List Str} {ts tys : List Ty} {rty : Ty} {Fn : DFn}
theorem CalMV.at (c : CalMV P w K mg base k C x ns ts tys rty Fn) (v : V) : CalM P w K mg base k C x (.o C ns (.k v .s :: ts) :: tys) rty Fn := by
  obtain ⟨f, fd, ps, h, m, b⟩ := c.ex
  exact ⟨f, fd, ps, h v, m, b⟩
theorem spD_k {vs : List V} {H : Hp} {Q : VK} {E : XK} (h : spD K (.o C ns (.s :: ts) :: tys) rty Fn vs H Q E) : ∃ v, spD K (.o C ns (.k v .s :: ts) :: tys) rty Fn vs H Q E := by
  obtain ⟨ds, d, fs, G, A, hF, o, nd, sub, kont⟩ := h
  cases vs with
  | nil => cases o
  | cons v0 vs =>
    have o : OwnA K G H (.o C ns (.s :: ts) :: tys) ds (some v0 :: vs.map some) A := o
    cases o with
    | @cons _ _ d0 ds' _ _ A1 B1 o1 o2 =>
      cases o1 with
      | @o _ dx a _ _ fl es Ai ga gd ha hdx hn oi =>
        cases fl with
        | nil => cases oi
        | cons p fl =>
          have oi : OwnA K G H (.s :: ts) es (some p.2 :: fl.map fun p => some p.2) Ai := oi
          cases oi with
          | @cons _ _ d1 es' _ _ A2 B2 q1 q2 =>
            refine ⟨p.2, _, d, fs, G, _, hF, OwnA.cons (.o ga gd ha hdx hn (fs := p :: fl) (OwnA.cons (.k q1) q2)) o2, nd, sub, fun G' H' v Av A' s oA ov ndv sub' => ?_⟩
            have oA : OwnA K G' H' (.o C ns (.k p.2 .s :: ts) :: tys) fs (some (V.ref a) :: vs.map some) A' := oA
            refine kont G' H' v Av A' s ?_ ov ndv sub'
            cases oA with
            | @cons _ _ d2 fs' _ _ A3 B3 r1 r2 =>
              cases r1 with
              | @o _ dx2 a2 _ _ fl2 es2 Ai2 ga2 gd2 ha2 hdx2 hn2 oi2 =>
                cases fl2 with
                | nil => cases oi2
                | cons p2 fl2 =>
                  have oi2 : OwnA K G' H' (.k p.2 .s :: ts) es2 (some p2.2 :: fl2.map fun p => some p.2) Ai2 := oi2
                  cases oi2 with
                  | @cons _ _ d3 es3 _ _ A4 B4 u1 u2 =>
                    exact OwnA.cons (.o ga2 gd2 ha2 hdx2 hn2 (fs := p2 :: fl2) (OwnA.cons (own_of_k u1).2 u2)) r2
theorem CalMV.s (c : CalMV P w K mg base k C x ns ts tys rty Fn) : CalM P w K mg base k C x (.o C ns (.s :: ts) :: tys) rty Fn := by
  obtain ⟨f, fd, ps, h, m, b⟩ := c.ex
  refine ⟨f, fd, ps, ⟨fun vs H Q E z => ?_, fun A outer s H args us vs Q E r g e0 b v z => ?_⟩, m, b⟩
  · obtain ⟨v, z⟩ := spD_k z
    exact (h v).len vs H Q E z
  · obtain ⟨v', z⟩ := spD_k z
    exact (h v').run A outer s H args us vs Q E r g e0 b v z
end
section
variable {ι : Type} {Xf : ι → Cx} {P : Program} {w : World} {K : PySem.W.Frag} {mg : Str → Option Value} {base : Heap} {n : Nat} [F : Fam Xf P w K mg base n] [FG : FamG Xf]
variable {m m1 m2 : List Ty} {pos apos xp : Pos} {a : Expr} {es : List Expr} {fo : Ef} {fr : Lf} {tys : List Ty} {L : List (Option Nat)} {C : Addr} {ns : List Str} {ts : List Ty}
end
def gRem : PyData → PyData → Option PyData
  | .list ds, .int k => (intsOf ds).bind fun ns => if k ∈ ns then some (.list ((ns.erase k).map .int)) else none
  | _, _ => none
def eRemV (g : Gq) (pt : Pf) (gv : Gq) : Ef := fun e => (g e).bind fun d => (gv e).bind fun x => (gRem d x).bind fun d2 => some (.none, pt e d2)
@[simp] theorem rRemV {g gv : Gq} {pt : Pf} {e : En} : eRemV g pt gv e = (g e).bind fun d => (gv e).bind fun x => (gRem d x).bind fun d2 => some (.none, pt e d2) := rfl
section
variable {K : PySem.W.Frag} {m : List Ty}
end
section
variable {ι : Type} {Xf : ι → Cx} {P : Program} {w : World} {K : PySem.W.Frag} {mg : Str → Option Value} {base : Heap} {n : Nat} [F : Fam Xf P w K mg base n]
variable {m : List Ty} {apos cpos : Pos} {o v : Expr} {g gv : Gq} {pt : Pf}
end
end DL
namespace DL
open PySem L2 PySem.Spec
section
variable {ι : Type} {Xf : ι → Cx} {P : Program} {w : World} {K : PySem.W.Frag} {mg : Str → Option Value} {base : Heap} {n : Nat} [F : Fam Xf P w K mg base n]
variable {m : List Ty} {pos : Pos} {x : Str} {v : V}
end
end DL
namespace DL
open PySem L2 PySem.Spec
def eSrtP (g : Gq) : Ef := fun e => (g e).bind fun d => (gSorted d).bind fun r => some (r, e)
@[simp] theorem rSrtP {g : Gq} {e : En} : eSrtP g e = (g e).bind fun d => (gSorted d).bind fun r => some (r, e) := rfl
section
variable {K : PySem.W.Frag} {m : List Ty} {g : Gq} {pt : Pf}
end
section
variable {ι : Type} {Xf : ι → Cx} {P : Program} {w : World} {K : PySem.W.Frag} {mg : Str → Option Value} {base : Heap} {n : Nat} [F : Fam Xf P w K mg base n] [FG : FamG Xf]
variable {m : List Ty} {pos p : Pos} {a : Expr} {g : Gq} {pt : Pf}
end
end DL
namespace DL
open PySem L2 PySem.Spec PyProof.Rows
section
variable {P : Program} {w : World} {A : Around} {E : Value → Shared → Prop} {s : Shared}
end
section
variable {ι : Type} {Xf : ι → Cx} {P : Program} {w : World} {K : PySem.W.Frag} {mg : Str → Option Value} {base : Heap} {n : Nat} [F : Fam Xf P w K mg base n]
variable {m m1 : List Ty} {pos p pos2 p2 : Pos} {a : Expr} {f : Ef} {x y : Str}
include F
end
end DL
namespace DL
open PySem L2 PySem.Spec PyProof.Rows
section
variable {ι : Type} {Xf : ι → Cx} {P : Program} {w : World} {K : PySem.W.Frag} {mg : Str → Option Value} {base : Heap} {n : Nat} [F : Fam Xf P w K mg base n]
variable {m m1 : List Ty} {pos p pos2 p2 : Pos} {a : Expr} {f : Ef} {x y : Str}
include F
end
end DL
namespace DL
open PySem L2 PySem.Spec
def gOb (cn : Str) (ns : List Str) : PyData → Option PyData
  | .list ds => some (obD none cn ns ds)
  | _ => none
def bTys : List String := ["NoneType", "bool", "int", "str", "list", "tuple", "dict"]
structure IsTb (K : PySem.W.Frag) (mg : Str → Option Value) (D : Addr) (y : Str) (tb : List (Str × Bool)) : Prop where
  gy : mg y = some (.ref D)
  kb : ∀ T ∈ bTys, PySem.W.kitOne K (.type T) (.ref D) = some false
  ko : ∀ cn b, tb.lookup cn = some b → ∀ C, CnK K cn C → PySem.W.kitOne K (.ref C) (.ref D) = some b
section
variable {K : PySem.W.Frag} {m m1 : List Ty} {C : Addr} {cn : Str} {ns : List Str} {f : Ef}
theorem DE.ob {ta : TE} (c : CnK K cn C) (ha : DE K m ta (.f C ns) f m1) : DE K m ta .s (e1 (gOb cn ns) f) m1 := by
  intro G H σ e A d e' Q st hf k
  obtain ⟨⟨d1, e1⟩, hf1, hf⟩ := oBs hf
  obtain ⟨d2, hf2, hf⟩ := oBs hf
  cases hf
  refine ha st hf1 fun G1 H1 v1 A1 B1 s1 st1 o1 nd1 => ?_
  cases o1 with
  | @f _ dx a _ fs ds ga hn q =>
    cases hf2
    subst hn
    exact k G1 H1 (.ref a) [] B1 s1 st1 (.s (.ob none cn c ga (fun b h => by cases h) q.1 q.2)) st1.nd
end
section
variable {ι : Type} {Xf : ι → Cx} {P : Program} {w : World} {K : PySem.W.Frag} {mg : Str → Option Value} {base : Heap} {n : Nat} [F : Fam Xf P w K mg base n]
variable {m m1 : List Ty} {pos p p2 : Pos} {a : Expr} {f : Ef} {C D : Addr} {cn : Str} {ns : List Str} {ts : List Ty}
end
end DL
namespace DL
open PySem L2 PySem.Spec
section
variable {K : PySem.W.Frag} {mg : Str → Option Value} {C D : Addr} {cn y f : Str}
structure NotF (K : PySem.W.Frag) (C : Addr) (cs : List Str) : Prop where
  ne : PySem.W.findIn K (.ref C) "__ne__" = some (some (.builtin "object.__ne__"))
  kb : ∀ T ∈ bTys, PySem.W.notFirst K C (.type T) = true
  ko : ∀ cn ∈ cs, ∀ D, CnK K cn D → PySem.W.notFirst K C (.ref D) = true
end
end DL
namespace DL
open PySem PySem.Spec PyProof.Rows
section
variable {M : Model} {prog : Program} {w : World} {A : Around} {E : Value → Shared → Prop} {s : Shared} {K : PySem.W.Frag} {x C f : Addr} {ox : Obj} {od : Option Obj} {b tb : Value}
end
end DL
namespace DL
open PySem L2 PySem.Spec
def obIn (cs : List Str) : PyData → Bool
  | .dict [(.tuple _, .tuple (.str cn :: _))] => decide (cn ∈ cs)
  | _ => true
def obG (cs : List Str) (d : PyData) : Option Unit := if obIn cs d = true then some () else none
def eEqV (cs : List Str) (Fn : DFn) (f g : Ef) : Ef := fun e => (f e).bind fun p => (g p.2).bind fun q => (obG cs q.1).bind fun _ => (Fn [p.1, q.1]).bind fun r => (gBlO r.1).bind fun d => some (d, q.2)
def gNot1 : PyData → Option PyData
  | .bool b => some (.bool (!b))
  | _ => none
def eNeV (cs : List Str) (Fn : DFn) (f g : Ef) : Ef := e1 gNot1 (eEqV cs Fn f g)
@[simp] theorem rEqV' {cs : List Str} {Fn : DFn} {f g : Ef} {e : En} : eEqV cs Fn f g e = (f e).bind fun p => (g p.2).bind fun q => (obG cs q.1).bind fun _ => (Fn [p.1, q.1]).bind fun r => (gBlO r.1).bind fun d => some (d, q.2) := rfl
@[simp] theorem rNeV' {cs : List Str} {Fn : DFn} {f g : Ef} {e : En} : eNeV cs Fn f g e = ((f e).bind fun p => (g p.2).bind fun q => (obG cs q.1).bind fun _ => (Fn [p.1, q.1]).bind fun r => (gBlO r.1).bind fun d => some (d, q.2)).bind fun r => (gNot1 r.1).bind fun d => some (d, r.2) := rfl
section
variable {ι : Type} {Xf : ι → Cx} {P : Program} {w : World} {K : PySem.W.Frag} {mg : Str → Option Value} {base : Heap} {n : Nat} [F : Fam Xf P w K mg base n] [FG : FamG Xf]
variable {C : Addr} {tys : List Ty} {rty : Ty} {Fn : DFn} {k : Nat}
end
section
variable {K : PySem.W.Frag} {m m1 m2 : List Ty} {C : Addr} {ns : List Str} {f g : Ef} {Fn : DFn} {cs : List Str}
end
section
variable {ι : Type} {Xf : ι → Cx} {P : Program} {w : World} {K : PySem.W.Frag} {mg : Str → Option Value} {base : Heap} {n : Nat} [F : Fam Xf P w K mg base n]
variable {m m1 m2 : List Ty} {pos : Pos} {a b : Expr} {f g : Ef} {C : Addr} {ns : List Str} {cs : List Str}
end
end DL
namespace DL
open PySem L2 PySem.Spec
section
variable {ι : Type} {Xf : ι → Cx} {P : Program} {w : World} {K : PySem.W.Frag} {mg : Str → Option Value} {base : Heap} {n : Nat} [F : Fam Xf P w K mg base n] [FG : FamG Xf]
variable {m m1 : List Ty} {pos apos xp kpos : Pos} {a : Expr} {f : Ef} {C : Addr} {ns : List Str}
end
end DL
namespace DL
open PySem L2 PySem.Spec
def flatQ : Ty → PyData → Bool
  | .l .s, .list ds => ds.all (flatN 3)
  | .s, d => flatN 3 d
  | .d, .dict kvs => kvs.all fun p => sc1 p.2
  | _, _ => false
def borQ (rty : Ty) (Fn : DFn) : DFn := fun ds => (Fn ds).bind fun p => (grd (flatQ rty p.1)).bind fun _ => some (p.1, ds)
@[simp] theorem rBorQ {rty : Ty} {Fn : DFn} {ds : List PyData} : borQ rty Fn ds = (Fn ds).bind fun p => (grd (flatQ rty p.1)).bind fun _ => some (p.1, ds) := rfl
section
variable {P : Program} {w : World} {K : PySem.W.Frag} {mg : Str → Option Value} {base : Heap} {k : Nat} {f : Addr} {fd : FuncData} {ps : List Str} {tys tysF : List Ty} {rty : Ty} {Fn : DFn}
end
end DL
namespace DL
open PySem L2 PySem.Spec PyProof.Rows
def nmB (a : Addr) : PyData → PyData
  | .dict [(.tuple [_, b], t)] => .dict [(.tuple [.int (a : Nat), b], t)]
  | d => d
def nmD (a : Addr) : PyData → PyData
  | .tuple [d] => .tuple [nmB a d]
  | d => nmB a d
theorem dq_namedB {K : PySem.W.Frag} {G : Hp} {v : V} {d : PyData} (q : Dq K G v d) : ∃ a, Dq K G v (nmB a d) := by
  cases q with
  | non => exact ⟨0, .non⟩
  | bl b => exact ⟨0, .bl b⟩
  | int i => exact ⟨0, .int i⟩
  | str x h => exact ⟨0, .str x h⟩
  | lst h1 h2 h3 h4 => exact ⟨0, .lst h1 h2 h3 h4⟩
  | tup h1 h2 h3 h4 => exact ⟨0, .tup h1 h2 h3 h4⟩
  | dv h1 h2 h3 => exact ⟨0, .dv h1 h2 h3⟩
  | @dic a kvs h1 h2 h3 =>
    refine ⟨0, ?_⟩
    match kvs, h1, h2, h3 with
    | [], h1, h2, h3 => exact .dic (kvs := []) h1 h2 h3
    | [x], h1, h2, h3 => exact .dic (kvs := [x]) h1 h2 h3
    | x :: y :: l, h1, h2, h3 => exact .dic (kvs := x :: y :: l) h1 h2 h3
  | @ob a C dx fs ds o cn h1 h2 h3 h4 h5 => exact ⟨a, .ob (some a) cn h1 h2 (fun b e => (Option.some.inj e).symm) h4 h5⟩
theorem dq_named {K : PySem.W.Frag} {G : Hp} {v : V} {d : PyData} (q : Dq K G v d) : ∃ a, Dq K G v (nmD a d) := by
  by_cases h : ∃ d1, d = .tuple [d1]
  · obtain ⟨d1, rfl⟩ := h
    cases q with
    | @tup p xs ds h1 h2 h3 h4 =>
      match xs, h2, h1, h3, h4 with
      | [v1], h2, h1, h3, h4 =>
        obtain ⟨a, qa⟩ := dq_namedB (h4 0 v1 d1 rfl rfl)
        refine ⟨a, .tup h1 rfl h3 fun i v d hv hd => ?_⟩
        match i with
        | 0 => cases hv; cases hd; exact qa
        | i + 1 => simp at hv
  · obtain ⟨a, qa⟩ := dq_namedB q
    have e : nmD a d = nmB a d := by
      unfold nmD
      split
      · exact absurd ⟨_, rfl⟩ h
      · rfl
    exact ⟨a, by rw [e]; exact qa⟩
section
variable {K : PySem.W.Frag} {G H : Hp}
theorem ownA_setS {m : List Ty} {e : En} {σ : L2.St} {A : List Addr} (h : OwnA K G H m e σ A) {j : Nat} (hj : m[j]? = some .s) {v : V} (hv : σ[j]? = some (some v)) {d : PyData} (q : Dq K G v d) : OwnA K G H m (e.set j d) σ A := by
  have z := ownA_set0 h (.inr hj) (t := .s) (d := d) (v := some v) (.s q)
  rw [set_id hj, set_id hv] at z
  exact z
end
noncomputable def nmS {σ : Type} (x : PyData) (g : PyData → Option (PyData × σ)) : Option (Bool × σ) := open Classical in
  if h : ∃ p : Bool × σ, ∀ a : Addr, g (nmD a x) = some (.bool p.1, p.2) then some h.choose else none
noncomputable def eNm (j i : Nat) (f : Ef) : Ef := fun e => open Classical in
  (nmS (e.getD j .none) fun z => (f (e.set j z)).bind fun r => if r.2 = (e.set j z).set i (r.2.getD i .none) then some (r.1, r.2.getD i .none) else none).bind fun p => some (.bool p.1, e.set i p.2)
@[simp] theorem rNm {j i : Nat} {f : Ef} {e : En} : eNm j i f e = open Classical in
  (nmS (e.getD j .none) fun z => (f (e.set j z)).bind fun r => if r.2 = (e.set j z).set i (r.2.getD i .none) then some (r.1, r.2.getD i .none) else none).bind fun p => some (.bool p.1, e.set i p.2) := rfl
theorem DE.nm {K : PySem.W.Frag} {te : TE} {f : Ef} {m m1 : List Ty} {j i : Nat} (he : DE K m te .s f m1) (hj : m[j]? = some .s) (hj1 : m1[j]? = some .s) (ij : i ≠ j) : DE K m te .s (eNm j i f) m1 := by
  intro G H σ e A d e' Q st hf k
  obtain ⟨p, hp, hf2⟩ := oBs hf
  cases hf2
  unfold nmS at hp
  split at hp
  case isFalse => cases hp
  rename_i h0
  have sp := h0.choose_spec
  cases hp
  generalize h0.choose = p at sp k
  obtain ⟨d0, v0, hd, hv, q0⟩ := ownA_getS st.own hj
  have ed : e.getD j .none = d0 := by rw [List.getD_eq_getElem?_getD, hd]; rfl
  rw [ed] at sp
  obtain ⟨a, qa⟩ := dq_named q0
  obtain ⟨r, f1, f2⟩ := oBs (sp a)
  split at f2
  case isFalse => cases f2
  rename_i hr
  obtain ⟨r1, r2⟩ := r
  have hr : r2 = (e.set j (nmD a d0)).set i (r2.getD i .none) := hr
  have f2 : some (r1, r2.getD i .none) = some (PyData.bool p.1, p.2) := f2
  obtain ⟨b1, b2⟩ := Prod.mk.inj (Option.some.inj f2)
  subst b1
  rw [b2] at hr
  have hr : r2 = (e.set j (nmD a d0)).set i p.2 := hr
  refine he ⟨ownA_setS st.own hj hv qa, st.nd, st.sub⟩ f1 fun G' H' v Av A' s' st' o' nd' => ?_
  refine k G' H' v Av A' s' ?_ o' nd'
  have z := ownA_setS st'.own hj1 hv (q0.mono s'.sg)
  have e2 : r2.set j d0 = e.set i p.2 := by
    rw [hr, List.set_comm _ _ ij, List.set_set, set_id hd]
  rw [e2] at z
  exact ⟨z, st'.nd, st'.sub⟩
section
variable {ι : Type} {Xf : ι → Cx} {P : Program} {w : World} {K : PySem.W.Frag} {mg : Str → Option Value} {base : Heap} {n : Nat} [F : Fam Xf P w K mg base n] [FG : FamG Xf]
include F
end
end DL
namespace DL
open PySem L2 PySem.Spec
section
variable {ι : Type} {Xf : ι → Cx} {P : Program} {w : World} {K : PySem.W.Frag} {mg : Str → Option Value} {base : Heap} {n : Nat} [F : Fam Xf P w K mg base n]
variable {m m1 m2 : List Ty} {pos : Pos} {a b : Expr} {f g : Ef}
include F
end
section
variable {ι : Type} {Xf : ι → Cx} {P : Program} {w : World} {K : PySem.W.Frag} {mg : Str → Option Value} {base : Heap} {n : Nat} [F : Fam Xf P w K mg base n] [FG : FamG Xf]
variable {m m1 : List Ty} {pos apos xp : Pos} {a : Expr} {f : Ef} {tys : List Ty} {C : Addr} {ns : List Str} {ts : List Ty}
end
end DL
namespace DL
open PySem L2 PySem.Spec
section
variable {ι : Type} {Xf : ι → Cx} {P : Program} {w : World} {K : PySem.W.Frag} {mg : Str → Option Value} {base : Heap} {n : Nat} [F : Fam Xf P w K mg base n]
variable {m m1 : List Ty} {pos : Pos} {a : Expr} {f : Ef}
include F
end
end DL
namespace DL
open PySem L2 PySem.Spec
section
variable {prog : Program} {w : World} {A : Around} {E : Value → Shared → Prop} {s : Shared} {x1 : Addr}
theorem next_tuple_hot {ir tr : Addr} {k : Nat} {its} {Q : Option Value → Shared → Prop} (hot : HotX.HotAt A x1 s.heap) (hi : s.heap.IsTupleIter ir tr k) (hd : s.heap.IsTuple tr its) (hx : its[k]? = none) (ne : ir ≠ x1)
    (q : ∀ h', Heap.ExtBut ir s.heap h' → Q none { s with heap := h' }) : wpAny (model prog w) A (pyNext (.ref ir)) Q E s := by
  obtain ⟨oi, a1, a2, a3⟩ := id hi
  obtain ⟨ol, b1, _, nl, b2⟩ := hd
  obtain ⟨hh, o1, vs1, h1, d1, c1⟩ := hot
  unfold pyNext
  refine wpAny_bind (wpAny_attempt (wpAny_callSpecial?_slot (name := Str.ofString "__next__") hi.typeIs PySem.F.slot_tuple_iterator_next (wpAny_call_entry PySem.F.slot_tuple_iterator_next hi.typeIs PySem.F.entry_tuple_iterator_next ?_ (PySem.F.args_tuple_iterator_next_1 _))))
  show wpAny _ _ (field (.ref ir) 0 >>= _) _ _ s
  refine wpAny_bind (wpAny_field a1 a3 (x := .ref tr) rfl ?_)
  show wpAny _ _ (if (Value.ref tr == Value.none) = true then _ else _) _ _ s
  rw [if_neg (show ¬ ((Value.ref tr == Value.none) = true) from Bool.false_ne_true)]
  show wpAny _ _ (field (.ref ir) 1 >>= _) _ _ s
  refine wpAny_bind (wpAny_field a1 a3 (x := .int k 0) rfl ?_)
  show wpAny _ _ (seqItems? (.ref tr) >>= _) _ _ s
  refine wpAny_bind (wpAny_seqItems b1 b2 ?_)
  simp only [Int.toNat_natCast, hx]
  refine wpAny_bind (wpAny_rule (wpAny_bind (wpAny_setField a1 a3 (by simp) ?_)))
  have h2 := (Heap.get?_update_other s.heap (Obj.mapFields (·.setIfInBounds 0 Value.none)) ne).trans h1
  refine wpAny_bind ?_
  simp only [newExc, newTuple]
  refine wpAny_bind (wpAny_newObj_type ?_ (by size_fits))
  refine wpAny_bind (m := firstArgMember _ _) (wpAny_of_eq (by first | rfl | (simp only [firstArgMember]; rfl)) (a := Value.none) ?_)
  refine wpAny_newObj_type ?_ (by size_fits)
  refine HotX.raiseNew_hot (x1 := x1) ⟨hh, o1, vs1, Heap.get?_push_of_some _ (Heap.get?_push_of_some _ h2), d1, c1⟩ (Nat.ne_of_lt (Heap.lt_size (Heap.get?_push_of_some _ h2))) (Heap.get?_push_size _ rfl) rfl (by first | (simp; done) | (simp; omega)) ?_
  refine wpAny_bind (wpAny_isInstance (b := true) (T := "StopIteration") ⟨_, Heap.get?_update_self _ (Heap.get?_push_size _ rfl) rfl, rfl⟩ isSubtype_stop ?_)
  refine wpAny_pure (q _ fun b o hb e => ?_)
  have e2 := Heap.get?_push_of_some (h := s.heap.update ir (Obj.mapFields (·.setIfInBounds 0 Value.none))) { cls := .type "tuple", data := .seq ([] : List Value).toArray } ((Heap.get?_update_other s.heap (Obj.mapFields (·.setIfInBounds 0 Value.none)) (Ne.symm hb)).trans e)
  rw [Heap.get?_update_other _ _ (Nat.ne_of_gt (Heap.lt_size e2))]
  exact Heap.get?_push_of_some _ e2
theorem next_list_hot {ir tr : Addr} {k : Nat} {its} {Q : Option Value → Shared → Prop} (hot : HotX.HotAt A x1 s.heap) (hi : s.heap.IsListIter ir tr k) (hd : s.heap.IsList tr its) (hx : its[k]? = none) (ne : ir ≠ x1)
    (q : ∀ h', Heap.ExtBut ir s.heap h' → Q none { s with heap := h' }) : wpAny (model prog w) A (pyNext (.ref ir)) Q E s := by
  obtain ⟨oi, a1, a2, a3⟩ := id hi
  obtain ⟨ol, b1, _, nl, b2⟩ := hd
  obtain ⟨hh, o1, vs1, h1, d1, c1⟩ := hot
  unfold pyNext
  refine wpAny_bind (wpAny_attempt (wpAny_callSpecial?_slot (name := Str.ofString "__next__") hi.typeIs slot_listiter_next (wpAny_call_entry slot_listiter_next hi.typeIs entry_listiter_next ?_ (args_listiter_next _))))
  show wpAny _ _ (field (.ref ir) 0 >>= _) _ _ s
  refine wpAny_bind (wpAny_field a1 a3 (x := .ref tr) rfl ?_)
  show wpAny _ _ (if (Value.ref tr == Value.none) = true then _ else _) _ _ s
  rw [if_neg (show ¬ ((Value.ref tr == Value.none) = true) from Bool.false_ne_true)]
  show wpAny _ _ (field (.ref ir) 1 >>= _) _ _ s
  refine wpAny_bind (wpAny_field a1 a3 (x := .int k 0) rfl ?_)
  show wpAny _ _ (seqItems? (.ref tr) >>= _) _ _ s
  refine wpAny_bind (wpAny_seqItems b1 b2 ?_)
  simp only [Int.toNat_natCast, hx]
  refine wpAny_bind (wpAny_rule (wpAny_bind (wpAny_setField a1 a3 (by simp) ?_)))
  have h2 := (Heap.get?_update_other s.heap (Obj.mapFields (·.setIfInBounds 0 Value.none)) ne).trans h1
  refine wpAny_bind ?_
  simp only [newExc, newTuple]
  refine wpAny_bind (wpAny_newObj_type ?_ (by size_fits))
  refine wpAny_bind (m := firstArgMember _ _) (wpAny_of_eq (by first | rfl | (simp only [firstArgMember]; rfl)) (a := Value.none) ?_)
  refine wpAny_newObj_type ?_ (by size_fits)
  refine HotX.raiseNew_hot (x1 := x1) ⟨hh, o1, vs1, Heap.get?_push_of_some _ (Heap.get?_push_of_some _ h2), d1, c1⟩ (Nat.ne_of_lt (Heap.lt_size (Heap.get?_push_of_some _ h2))) (Heap.get?_push_size _ rfl) rfl (by first | (simp; done) | (simp; omega)) ?_
  refine wpAny_bind (wpAny_isInstance (b := true) (T := "StopIteration") ⟨_, Heap.get?_update_self _ (Heap.get?_push_size _ rfl) rfl, rfl⟩ isSubtype_stop ?_)
  refine wpAny_pure (q _ fun b o hb e => ?_)
  have e2 := Heap.get?_push_of_some (h := s.heap.update ir (Obj.mapFields (·.setIfInBounds 0 Value.none))) { cls := .type "tuple", data := .seq ([] : List Value).toArray } ((Heap.get?_update_other s.heap (Obj.mapFields (·.setIfInBounds 0 Value.none)) (Ne.symm hb)).trans e)
  rw [Heap.get?_update_other _ _ (Nat.ne_of_gt (Heap.lt_size e2))]
  exact Heap.get?_push_of_some _ e2
end
section
variable {prog : Program} {w : World} {A : Around} {E : Value → Shared → Prop} {s : Shared} {x1 : Addr}
end
section
variable {X : Cx}
end
theorem turn_tupleH {P : Program} {w : World} {K : PySem.W.Frag} {tg : Expr} (a ir : Addr) : L2H.TurnH P w K tg (Itt K a) [ir] ir (fun i h => h.IsTupleIter ir a i) where
  mem := List.mem_singleton.mpr rfl
  obj := fun i h st b hb => by
    rw [List.mem_singleton.mp hb]
    obtain ⟨o, e1, _, e2⟩ := st
    exact ⟨o, e1, fun v z => by rw [e2] at z; cases z⟩
  keep := fun i h h' st k => st.at fun o e => k ir (List.mem_singleton.mpr rfl) o e
  item := fun X h1 h2 h3 _ i pz s σ H E I hf st hgo => by
    subst h1 h2 h3
    obtain ⟨xs, x, hq, hx⟩ := hgo
    obtain ⟨its, rv, p, hz⟩ := I.tuple hq
    obtain ⟨u, hu, ru⟩ := rv.get hx
    obtain ⟨g0, g1, g2, g3, g4, g5⟩ := hf ir (List.mem_singleton.mpr rfl)
    refine wpAny_pyNext_tuple_item st (show s.heap.IsTuple a its.toArray from p) (x := u) (by simpa using hu) fun h2 st2 sb => ?_
    have I1 : L2.Inv X pz σ H { s with heap := h2 } := I.turned (t' := s.toks) (fun b o hb e => (sb.2 b hb).trans e) g0 g1 g3 g4 g5
    obtain ⟨o, e1, e2, e3⟩ := id st2
    exact ⟨u, rfl, go_of (s := { s with heap := h2 }) e1 e2 e3 (by decide) ⟨x, H, I1, ru, ⟨rfl, fun ys hy => by rw [I.tuple_inj hy hq]; exact hx⟩, st2, fun b hb => (hf b hb).1⟩⟩
  done := fun X h1 h2 h3 hc i pz s σ H E I hf st hst => by
    subst h1 h2 h3
    obtain ⟨xs, hq, hx⟩ := hst
    obtain ⟨its, rv, p, hz⟩ := I.tuple hq
    obtain ⟨g0, g1, g2, g3, g4, g5⟩ := hf ir (List.mem_singleton.mpr rfl)
    have hl := rv.length
    obtain ⟨q, hot, hp⟩ := hc
    obtain ⟨v1, e1, c1⟩ := hot.2
    exact next_tuple_hot (x1 := q.1) ⟨hot.1, q.2, v1, (I.pin q (List.mem_append_left _ hp)).1, e1, c1⟩ st (show s.heap.IsTuple a its.toArray from p) (by simp; omega) (fun z => g5 q (List.mem_append_left _ hp) z.symm) fun h2 eb => ⟨rfl, I.turned (t' := s.toks) (fun b o hb e => eb b o hb e) g0 g1 g3 g4 g5⟩
  self := fun _ _ _ _ _ st h => wpAny_pyIter_tupleiter st h
theorem turn_listH {P : Program} {w : World} {K : PySem.W.Frag} {tg : Expr} (a ir : Addr) : L2H.TurnH P w K tg (Itl K a) [ir] ir (fun i h => h.IsListIter ir a i) where
  mem := List.mem_singleton.mpr rfl
  obj := fun i h st b hb => by
    rw [List.mem_singleton.mp hb]
    obtain ⟨o, e1, _, e2⟩ := st
    exact ⟨o, e1, fun v z => by rw [e2] at z; cases z⟩
  keep := fun i h h' st k => st.at fun o e => k ir (List.mem_singleton.mpr rfl) o e
  item := fun X h1 h2 h3 _ i pz s σ H E I hf st hgo => by
    subst h1 h2 h3
    obtain ⟨xs, x, hq, hx⟩ := hgo
    obtain ⟨its, rv, p, hz⟩ := I.list hq
    obtain ⟨u, hu, ru⟩ := rv.get hx
    obtain ⟨g0, g1, g2, g3, g4, g5⟩ := hf ir (List.mem_singleton.mpr rfl)
    refine wpAny_pyNext_list_item st p.isList (x := u) (by simpa using hu) fun h2 st2 sb => ?_
    have I1 : L2.Inv X pz σ H { s with heap := h2 } := I.turned (t' := s.toks) (fun b o hb e => (sb.2 b hb).trans e) g0 g1 g3 g4 g5
    obtain ⟨o, e1, e2, e3⟩ := id st2
    exact ⟨u, rfl, go_of (s := { s with heap := h2 }) e1 e2 e3 (by decide) ⟨x, H, I1, ru, ⟨rfl, fun ys hy => by rw [I.list_inj hy hq]; exact hx⟩, st2, fun b hb => (hf b hb).1⟩⟩
  done := fun X h1 h2 h3 hc i pz s σ H E I hf st hst => by
    subst h1 h2 h3
    obtain ⟨xs, hq, hx⟩ := hst
    obtain ⟨its, rv, p, hz⟩ := I.list hq
    obtain ⟨g0, g1, g2, g3, g4, g5⟩ := hf ir (List.mem_singleton.mpr rfl)
    have hl := rv.length
    obtain ⟨q, hot, hp⟩ := hc
    obtain ⟨v1, e1, c1⟩ := hot.2
    exact next_list_hot (x1 := q.1) ⟨hot.1, q.2, v1, (I.pin q (List.mem_append_left _ hp)).1, e1, c1⟩ st p.isList (by simp; omega) (fun z => g5 q (List.mem_append_left _ hp) z.symm) fun h2 eb => ⟨rfl, I.turned (t' := s.toks) (fun b o hb e => eb b o hb e) g0 g1 g3 g4 g5⟩
  self := fun _ _ _ _ _ st h => wpAny_pyIter_listiter st h
abbrev blkP (X : Cx) (s : Shared) (H : Hp) (scope : Scope) (cenv : Env) (fpz : List Addr) : Cx := { X.blk s H scope cenv fpz with pn := X.pn }
theorem hotP {X : Cx} {s : Shared} {H : Hp} {scope : Scope} {cenv : Env} {fpz : List Addr} (h : L2H.HotC X) : L2H.HotC (blkP X s H scope cenv fpz) := h
section
variable {X : Cx}
theorem blockP_start {pz : List (Addr × Obj)} {σ : St} {H : Hp} {s : Shared} {scope : Scope} {ow : List (Str × Nat)} {fpz : List Addr} (I : L2.Inv X pz σ H s) (ok : BlkOk X.N X.env.scope scope ow) (hN : X.N.Nodup) (hf : ∀ b ∈ fpz, FpOk X pz H b ∧ b < s.heap.objs.size) :
    L2.Inv (blkP X s H scope (compEnvC scope (cellsFrom (s.heap.objs.size + 1) scope.names (cloFrom X.env.cells scope.names [])) s.heap.objs.size X.env) fpz) [] (wipe σ (ow.map (·.2))) H { s with heap := pushCells (s.heap.push { cls := .type "dict", data := .dict #[] }) scope.names } := by
  have J := block_start I ok hN hf
  refine ⟨⟨J.ok.mod, J.ok.kind, J.ok.glob, J.ok.blt, J.ok.above, J.ok.inj, J.ok.has, J.ok.cab, J.ok.hd, J.ok.frames, J.ok.stk, J.ok.exf, J.ok.bs, J.ok.bsz, J.ok.noex, J.ok.exfs, J.ok.funs, J.ok.frf⟩, J.os, J.bare, J.base, J.loc, J.cell, J.free, J.freeC, fun p hp => ?_, J.hok, J.len⟩
  have hp : p ∈ X.pn := by simpa using (show p ∈ X.pn ++ [] from hp)
  obtain ⟨p1, p2, p3, p4, p5⟩ := I.pin p (List.mem_append_left _ hp)
  exact ⟨pushCells_keeps _ _ _ _ (Heap.get?_push_of_some _ p1), p2, Nat.ne_of_lt (Heap.lt_size p1), fun z => (List.mem_cons.mp (I.stkSub p.1 z)).elim p3 p4, p5⟩
theorem lc_hot {pz : List (Addr × Obj)} {s : Shared} {σ : St} {H : Hp} {Q : VK} {el trg itx : Expr} {cs : List Expr} {scope : Scope} {ow : List (Str × Nat)} {ps1 ps2 : Pos} {wj : L2.TI} {gt : TG} {ct : TT} {et : TE} {us : Option (Value → Sem Unit)} {Qr : Value → Shared → Prop}
    (hc : L2H.HotC X) (hN : X.N.Nodup) (I : L2.Inv X pz σ H s) (hi : L2H.PIH X trg itx wj) (ok : BlkOk X.N X.env.scope scope ow)
    (hg : ∀ (s : Shared) (H : Hp) (C : Addr) (cl : List (Str × Addr)) (fpz : List Addr), PG (blkP X s H scope (compEnvC scope cl C X.env) fpz) trg gt) (ht : ∀ (s : Shared) (H : Hp) (C : Addr) (cl : List (Str × Addr)) (fpz : List Addr), PTs (blkP X s H scope (compEnvC scope cl C X.env) fpz) cs ct)
    (he : ∀ (s : Shared) (H : Hp) (C : Addr) (cl : List (Str × Addr)) (fpz : List Addr), PE (blkP X s H scope (compEnvC scope cl C X.env) fpz) el et) (hs : ∀ x, foldedSetIterable itx X.env x = pure x)
    (h : tLc wj gt ct et (ow.map (·.2)) σ H Q)
    (fin2 : ∀ Dl C s' m H', L2.Inv X pz σ H' s' → Q (.ref Dl) H' → s'.heap.Ns C m → FpOk X pz H' C → compPost (model X.prog X.w) X.A X.xe us Qr (.ref Dl) C (.ok .next) s') :
    wpAny (model X.prog X.w) X.A (comprehension (.ListComp el [⟨trg, itx, cs, 0⟩] scope ps1) scope X.env ps2 (newList []) false (eval itx X.env) us) Qr X.xe s := by
  have frk : ∀ y ∈ scope.names, y.2 = .free → ∃ cc, X.env.cells.lookup y.1 = some cc := fun y hy e => by
    rcases ok.free y hy e with k | k
    · exact I.ok.has _ (.inl k)
    · exact I.ok.has _ (.inr k)
  refine wpAny_comprehension_free (use := us) rfl hs (closure_ok frk) ok.kind (fun y hy e => by rw [ok.uniq y hy, e])
    (thn (hi.run pz s σ H _ I h) fun xv s1 vx => thn vx fun iv sb h2 => ?_)
  obtain ⟨itr, fpz, tnn, Jt, Hb, e, Jb, Tn, tb, fb, q⟩ := h2
  subst e
  refine wpAny_newObj_type (newEnv_comp ?_) (by show 0 ≤ sizeLine; decide)
  generalize dAt : sb.heap.objs.size = Dl
  have dNew : Hb Dl = none := Jb.hok.fresh (Nat.le_of_eq dAt)
  obtain ⟨W, ⟨mz, wz⟩, trn⟩ := q Dl dNew
  generalize scAt : ({ sb with heap := sb.heap.push { cls := .type "list", data := .seq ([] : List Value).toArray } } : Shared) = sc
  have Jc : L2.Inv X pz σ (upd Hb Dl (.lst [])) sc := by
    rw [← scAt]
    refine Jb.laid (t' := sb.toks) (fun b o e => Heap.get?_push_of_some _ e) (Nat.le_of_eq dAt) ⟨Nat.zero_le _, [], 0, .nil, ?_⟩
    rw [← dAt]
    exact Heap.get?_push_size _ rfl
  have scH : sc.heap = sb.heap.push { cls := .type "list", data := .seq ([] : List Value).toArray } := by rw [← scAt]
  have szk : ∀ b ∈ fpz, b < sb.heap.objs.size := fun b hb => by
    obtain ⟨o, e, _⟩ := Tn.obj _ _ tb b hb
    exact Heap.lt_size e
  have fc : ∀ b ∈ fpz, FpOk X pz (upd Hb Dl (.lst [])) b ∧ b < sc.heap.objs.size := fun b hb => by
    have hlt := szk b hb
    refine ⟨⟨?_, (fb b hb).2⟩, by rw [scH, Heap.size_push]; exact Nat.lt_succ_of_lt hlt⟩
    rw [upd_ne (by rw [← dAt]; exact Nat.ne_of_lt hlt)]
    exact (fb b hb).1
  have tc : tnn 0 sc.heap := Tn.keep _ _ _ tb fun b _ o e => by rw [scH]; exact Heap.get?_push_of_some _ e
  have Jd := blockP_start Jc ok hN fc
  have gp := hg sc (upd Hb Dl (.lst [])) sc.heap.objs.size (cellsFrom (sc.heap.objs.size + 1) scope.names (cloFrom X.env.cells scope.names [])) fpz
  have tp := ht sc (upd Hb Dl (.lst [])) sc.heap.objs.size (cellsFrom (sc.heap.objs.size + 1) scope.names (cloFrom X.env.cells scope.names [])) fpz
  have ep := he sc (upd Hb Dl (.lst [])) sc.heap.objs.size (cellsFrom (sc.heap.objs.size + 1) scope.names (cloFrom X.env.cells scope.names [])) fpz
  show codeAny _ _ (.compStart (.ListComp el [⟨trg, itx, cs, 0⟩] scope ps1) 0 (.ref itr) (.ref Dl) (compEnvC scope (cellsFrom (sc.heap.objs.size + 1) scope.names (cloFrom X.env.cells scope.names [])) sc.heap.objs.size X.env)) (compPost (model X.prog X.w) X.A X.xe us Qr (.ref Dl) sc.heap.objs.size) { sc with heap := pushCells (sc.heap.push { cls := .type "dict", data := .dict #[] }) scope.names }
  have fpN : ∀ b ∈ fpz, (upd Hb Dl (.lst [])) b = none := fun b hb => (fc b hb).1.1
  generalize cenAt : compEnvC scope (cellsFrom (sc.heap.objs.size + 1) scope.names (cloFrom X.env.cells scope.names [])) sc.heap.objs.size X.env = cen at Jd gp tp ep ⊢
  have cenL : cen.locals = sc.heap.objs.size := by subst cenAt; rfl
  generalize hcAt : upd Hb Dl (.lst []) = Hc at Jc Jd gp tp ep wz fpN fc
  generalize sdAt : ({ sc with heap := pushCells (sc.heap.push { cls := .type "dict", data := .dict #[] }) scope.names } : Shared) = sd at Jd ⊢
  have td4 : tnn 0 sd.heap := Tn.keep _ _ _ tc fun b _ o e => by rw [← sdAt]; exact pushCells_keeps _ _ _ _ (Heap.get?_push_of_some _ e)
  have still : ∀ {σ' : St} {H' : Hp} {s' : Shared}, L2.Inv (blkP X sc Hc scope cen fpz) [] σ' H' s' → (∀ b ∈ fpz, H' b = none) → ∀ b ∈ fpz, FpOk (blkP X sc Hc scope cen fpz) [] H' b := fun {σ' H' s'} I' hnn b hb =>
    ⟨hnn b hb, (I'.ok.exf b hb).1, I'.ok.exfs b hb, .inl hb, fun x cc e => (I'.ok.exf b hb).2 x cc e, fun p hp => (fb b hb).2.2.2.2.2 p (List.mem_append_left _ (by simpa using (show p ∈ X.pn ++ [] from hp)))⟩
  have lp : codeAny (model X.prog X.w) X.A (.compLoop (.ListComp el [⟨trg, itx, cs, 0⟩] scope ps1) 0 (.ref itr) (.ref Dl) cen) (compPost (model X.prog X.w) X.A X.xe us Qr (.ref Dl) sc.heap.objs.size) sd := by
    refine compLoop_any (fun n s' => ∃ i H', L2.Inv (blkP X sc Hc scope cen fpz) [] (wipe σ (ow.map (·.2))) H' s' ∧ tnn i s'.heap ∧ (∀ b ∈ fpz, H' b = none) ∧ W i n H') ?_ mz ⟨0, Hc, Jd, td4, fpN, wz⟩
    rintro n se ⟨i, He, Je, te5, ne5, we⟩
    rcases trn i n He we with ⟨stop, qn⟩ | ⟨gon, Nx, nxk, stp⟩
    · have dn := Tn.done (blkP X sc Hc scope cen fpz) rfl rfl rfl (hotP hc) i [] se _ He (fun _ _ => False) Je (still Je ne5) te5 stop
      refine thnF dn fun r sf ⟨er, Jf⟩ => ?_
      subst er
      have Jg : L2.Inv X pz σ He sf := Jc.call' (ch := fpz) Jf.os Jf.base Jf.hok Jf.bare fun b hb => ⟨(fc b hb).1.2.2.2.1, (fc b hb).1.2.1, (fc b hb).1.2.2.2.2.1, (fc b hb).1.2.2.2.2.2⟩
      have cFree : He sc.heap.objs.size = none := by
        have zz : He cen.locals = none := Jf.free
        rw [cenL] at zz
        exact zz
      obtain ⟨m, hnn, _⟩ := Jf.loc
      have hnn : sf.heap.Ns cen.locals m := hnn
      rw [cenL] at hnn
      exact fin2 Dl sc.heap.objs.size sf m He Jg qn hnn (Jc.fpOk (Nat.le_refl _) cFree)
    · have itm := Tn.item (blkP X sc Hc scope cen fpz) rfl rfl rfl (hotP hc) i [] se _ He (fun _ _ => False) Je (still Je ne5) te5 gon
      refine thnF itm fun r sf ⟨uu, er, hf6⟩ => ?_
      subst er
      refine thnF hf6 fun _ sg ⟨x, Hg, Jg, rg, yg, tg7, ng7⟩ => ?_
      have I7' := Jg.pinned (still Jg ng7) (Tn.obj _ _ tg7)
      refine thnF (gp.run _ sg _ Hg x uu _ I7' rg (stp x Hg yg)) fun _ sh ⟨σ8, Hh, Jh, wh8, qh⟩ => ?_
      refine thnF (tp.run _ sh σ8 Hh _ Jh qh) fun b si ⟨Hi, Ji, qi⟩ => ?_
      have back : ∀ {s' : Shared} {H' : Hp}, L2.Inv (blkP X sc Hc scope cen fpz) ([] ++ pinsAt fpz sg.heap) σ8 H' s' → Nx H' → ∃ m, m < n ∧ ∃ i H', L2.Inv (blkP X sc Hc scope cen fpz) [] (wipe σ (ow.map (·.2))) H' s' ∧ tnn i s'.heap ∧ (∀ b ∈ fpz, H' b = none) ∧ W i m H' := fun {s' H'} I' nx2 => by
        obtain ⟨m', hmm, w'⟩ := nxk H' nx2
        have pin' : ∀ b ∈ fpz, ∀ o, sg.heap.get? b = some o → s'.heap.get? b = some o ∧ H' b = none := fun b hb o e =>
          let zz := I'.pin (b, o) (List.mem_append_right _ (List.mem_append_right _ (mem_pinsAt hb e)))
          ⟨zz.1, zz.2.1⟩
        have hl : (wipe σ (ow.map (·.2))).length = σ8.length := by rw [← wh8, wipe_length]
        refine ⟨m', hmm, i + 1, H', (I'.unpinned (pins := [])).weak hl (fun j v e => ?_), Tn.keep _ _ _ tg7 fun b hb o e => (pin' b hb o e).1, fun b hb => ?_, w'⟩
        · rw [← wh8] at e
          exact (wipe_some e).1
        · obtain ⟨o, e, _⟩ := Tn.obj _ _ tg7 b hb
          exact (pin' b hb o e).2
      cases b with
      | false =>
        simp only [Bool.false_eq_true, if_false] at qi ⊢
        exact back Ji qi
      | true =>
        simp only [if_true] at qi ⊢
        refine thnF (ep.run _ si σ8 Hi _ Ji qi) fun zz sj ⟨yw, Hj, Jj, rj, ac, hdj, hzj, nx2⟩ => ?_
        exact app_ok (X := blkP X sc Hc scope cen fpz) Jj hdj hzj rj fun sk Jk => back Jk nx2
  exact codeAny_compStart_list lp (Tn.self X.A 0 _ _ _ td4 lp)
theorem pe_lcH {el trg itx : Expr} {cs : List Expr} {scope : Scope} {ow : List (Str × Nat)} {ps1 : Pos} {wj : L2.TI} {gt : TG} {ct : TT} {et : TE} (hc : L2H.HotC X) (hN : X.N.Nodup) (hi : L2H.PIH X trg itx wj) (ok : BlkOk X.N X.env.scope scope ow)
    (hg : ∀ (s : Shared) (H : Hp) (C : Addr) (cl : List (Str × Addr)) (fpz : List Addr), PG (blkP X s H scope (compEnvC scope cl C X.env) fpz) trg gt) (ht : ∀ (s : Shared) (H : Hp) (C : Addr) (cl : List (Str × Addr)) (fpz : List Addr), PTs (blkP X s H scope (compEnvC scope cl C X.env) fpz) cs ct)
    (he : ∀ (s : Shared) (H : Hp) (C : Addr) (cl : List (Str × Addr)) (fpz : List Addr), PE (blkP X s H scope (compEnvC scope cl C X.env) fpz) el et) (hs : ∀ x, foldedSetIterable itx X.env x = pure x := by intro _; rfl) :
    PE X (.ListComp el [⟨trg, itx, cs, 0⟩] scope ps1) (tLc wj gt ct et (ow.map (·.2))) := by
  refine ⟨fun pz s σ H Q I h => ?_⟩
  rw [eval_ListComp]
  refine lc_hot hc hN I hi ok hg ht he hs h fun Dl C s2 m H2 I2 q hn f => ⟨m, hn, fun h3 sb => ?_⟩
  obtain ⟨g0, g1, g2, g3, g4, g5⟩ := f
  exact ⟨.ref Dl, H2, I2.turned (t' := s2.toks) (fun b o hb e => (sb.2 b hb).trans e) g0 g1 g3 g4 g5, rfl, q⟩
theorem pih_tup {tg l : Expr} {tl : TE} (hl : PE X l tl) : L2H.PIH X tg l (iTup X.K tl) := by
  refine ⟨fun pz s σ H R I h => thn (hl.run pz s σ H _ I h) fun v s2 hv => ?_⟩
  obtain ⟨x, H1, I1, r1, a, rfl, ⟨xs, hq⟩, q⟩ := hv
  cases r1
  obtain ⟨its, rv, p, hz⟩ := I1.tuple hq
  refine wpAny_pyIter_tuple (show s2.heap.IsTuple a its.toArray from p) ?_
  refine ⟨s2.heap.objs.size, [s2.heap.objs.size], _, _, H1, rfl, I1.kept (t' := s2.toks) fun b o z => Heap.get?_push_of_some _ z, turn_tupleH a _, ⟨_, Heap.get?_push_size _ rfl, rfl, rfl⟩, fun b hb => ?_, q⟩
  rw [List.mem_singleton.mp hb]
  exact I1.fpOk (Nat.le_refl _) (I1.hok.fresh (Nat.le_refl _))
theorem pih_list {tg l : Expr} {tl : TE} (hl : PE X l tl) : L2H.PIH X tg l (iList X.K tl) := by
  refine ⟨fun pz s σ H R I h => thn (hl.run pz s σ H _ I h) fun v s2 hv => ?_⟩
  obtain ⟨x, H1, I1, r1, a, rfl, ⟨xs, hq⟩, q⟩ := hv
  cases r1
  obtain ⟨its, rv, p, hz⟩ := I1.list hq
  refine wpAny_pyIter_list p.isList ?_
  refine ⟨s2.heap.objs.size, [s2.heap.objs.size], _, _, H1, rfl, I1.kept (t' := s2.toks) fun b o z => Heap.get?_push_of_some _ z, turn_listH a _, ⟨_, Heap.get?_push_size _ rfl, rfl, rfl⟩, fun b hb => ?_, q⟩
  rw [List.mem_singleton.mp hb]
  exact I1.fpOk (Nat.le_refl _) (I1.hok.fresh (Nat.le_refl _))
theorem pih_or {tg iter : Expr} {w1 w2 : L2.TI} (h1 : L2H.PIH X tg iter w1) (h2 : L2H.PIH X tg iter w2) : L2H.PIH X tg iter (fun σ H R => w1 σ H R ∨ w2 σ H R) :=
  ⟨fun pz s σ H R I h => h.elim (h1.run pz s σ H R I) (h2.run pz s σ H R I)⟩
end
structure PItH {ι : Type} (Xf : ι → Cx) (K : PySem.W.Frag) (wk : Bool) (m : List Ty) (tg iter : Expr) (f : Lf) (m' : List Ty) : Prop where
  ex : ∃ wi : L2.TI, (∀ i, L2H.PIH (Xf i) tg iter wi) ∧ DI K wk m wi f m'
theorem suHot {ι : Type} {Xf : ι → Cx} {a : Addr} {cls : Value} {d : Option Addr} (b : SI Xf cls d) : L2H.HotC (suF Xf a cls d b) := by
  obtain ⟨vs, hv⟩ := b.hf
  exact ⟨(a, b.oe), ⟨rfl, vs, hv, b.hz.2.2 vs hv⟩, List.mem_cons_self ..⟩
section
variable {ι : Type} {Xf : ι → Cx} {P : Program} {w : World} {K : PySem.W.Frag} {mg : Str → Option Value} {base : Heap} {n : Nat} [F : Fam Xf P w K mg base n] {a0 : Addr} {cls : Value} {d0 : Option Addr}
variable {m m1 m2 : List Ty} {pos : Pos} {a tg iter elt : Expr} {ifs : List Expr} {scope : Scope} {f ef : Ef} {tf : Bf} {it : Lf} {gf : Gf} {ty : Ty} {sl : List Nat}
include F in
theorem pi_seqH (ha : PD (suF Xf a0 cls d0) K m a .s f m1) : PItH (suF Xf a0 cls d0) K false m tg a (iSeq f) m1 := by
  obtain ⟨ta, pa, da⟩ := ha.ex
  refine ⟨_, fun i => pih_or (by have := pih_list (tg := tg) (pa i); rw [show (suF Xf a0 cls d0 i).K = K from F.kk i.i] at this; exact this) (by have := pih_tup (tg := tg) (pa i); rw [show (suF Xf a0 cls d0 i).K = K from F.kk i.i] at this; exact this), fun {G H σ e A ds e' R} st hf k => ?_⟩
  obtain ⟨⟨d1, e1⟩, hf1, hf⟩ := oBs (show ((f e).bind fun p => (seqD p.1).bind fun ds => some (ds, p.2)) = some (ds, e') from hf)
  obtain ⟨ds1, hf2, hf⟩ := oBs hf
  cases hf
  cases d1 with
  | list xs =>
    cases hf2
    refine .inl (da st hf1 fun G1 H1 v1 A1 B1 s1 st1 o1 nd1 => ?_)
    cases o1 with
    | s q1 =>
      obtain ⟨a, vs, rfl, r1, z1, qq⟩ := dq_lst q1
      exact ⟨a, rfl, ⟨vs, .inl (same_rd st1.sub r1)⟩, k _ _ _ _ s1 st1 (walkD_list r1 qq).d (by rw [← qq.1]; exact z1)⟩
  | tuple xs =>
    cases hf2
    refine .inr (da st hf1 fun G1 H1 v1 A1 B1 s1 st1 o1 nd1 => ?_)
    cases o1 with
    | s q1 =>
      obtain ⟨a, vs, rfl, r1, z1, qq⟩ := dq_tup q1
      exact ⟨a, rfl, ⟨vs, same_seqT st1.sub r1⟩, k _ _ _ _ s1 st1 (walkD_tup r1 qq).d (by rw [← qq.1]; exact z1)⟩
  | _ => cases hf2
include F in
theorem pd_lcH {wk : Bool} (own : List (Str × Nat)) (hi : PItH (suF Xf a0 cls d0) K wk m tg iter it m1) (hg : PGD (suF (blkF Xf scope) a0 cls d0) K wk (hideM m1 (own.map (·.2))) tg sl gf m2) (ht : PTsD (suF (blkF Xf scope) a0 cls d0) K m2 ifs tf) (he : PD (suF (blkF Xf scope) a0 cls d0) K m2 elt ty ef m2)
    (ok : ∀ i, BlkOk (Xf i).N (Xf i).env.scope scope own := by intro _; exact blkOk_by (by rfl)) (us : usB m1 (own.map (·.2)) = true := by rfl) (hs : ∀ j ∈ sl, j ∈ own.map (·.2) := by decide) (le : LeM m2 (hideM m1 (own.map (·.2))) := by repeat (first | exact .nil | refine .cons (by first | exact .rfl _ | exact .u _) ?_))
    (hf : ∀ i x, foldedSetIterable iter (Xf i).env x = pure x := by intro _ _; rfl) : PD (suF Xf a0 cls d0) K m (.ListComp elt [⟨tg, iter, ifs, 0⟩] scope pos) (.l ty) (eLc it (own.map (·.2)) gf tf ef) m1 := by
  obtain ⟨wi, pi, di⟩ := hi.ex
  obtain ⟨g, pg, dg⟩ := hg.ex
  obtain ⟨tt, pt, dt⟩ := ht.ex
  obtain ⟨te, pe, de⟩ := he.ex
  exact ⟨_, fun b => pe_lcH (suHot b) (F.nd b.i) (pi b) (ok b.i) (fun s H C cl fp => pg ⟨⟨b.i, s, H, C, cl, fp⟩, b.oe, b.pn, b.hz, b.hf⟩) (fun s H C cl fp => pt ⟨⟨b.i, s, H, C, cl, fp⟩, b.oe, b.pn, b.hz, b.hf⟩) (fun s H C cl fp => pe ⟨⟨b.i, s, H, C, cl, fp⟩, b.oe, b.pn, b.hz, b.hf⟩) (hf b.i), DE.lc di dg dt de us hs le⟩
end
end DL
namespace DL
open PySem L2 PySem.Spec PyProof.Rows
section
variable {P : Program} {w : World} {K : PySem.W.Frag} {mg mb : Str → Option Value} {k : Nat} {fa a : Addr} {fd : FuncData} {x : Str} {vs : List Value} {ns : List Int} {Fn : DFn}
theorem walk_ofX {l : PySem.W.OpenLaw} {n k : Nat} {q : Program} {loose : List Str} {XP : (Str → Option Value) → Heap → Prop} {YP : World → Heap → Prop} {d : DefRec} {x : Str}
    (hn : l.most = some n) (hn2 : n ≤ sizeLine) (hdf : d.params.defaults = []) (hr : Room k callerA)
    (F : ∀ (w : World) (mg : Str → Option Value) (fa : Addr) (h : Heap), YP w h → h.Ns mainGlobals mg → mg d.name = some (.ref fa) →
      ∃ (K : PySem.W.Frag) (fd : FuncData), K.In h ∧ (∀ (s : Shared) (u : Value), BindsTo s fd ⟨[u], []⟩ [(x, u)]) ∧ ∀ base : Heap, K.In base → base.Ns mainGlobals mg → FnG l.prog w K mg base k fa fd [x] (spD K [.q] .s Fn))
    (hF : ∀ ns : List Int, ns.length ≤ n → ∃ fs, Fn [.list (ns.map .int)] = some (.bool true, fs)) :
    PySem.W.WalkO q loose XP YP l.row.toRowW d [] (fun f vs => PySem.call f vs) :=
  Att.attach_call hn hdf fun w s₀ s₁ mg mb fa o pm cd doc a vs ns G Y ho hd hcd hmg hobj hints hlen hg => by
    obtain ⟨K, fd, KX, hb, hFn⟩ := F w mg fa _ Y G.T.g hmg
    exact law_callG KX G.T.g G.T.b G.T.builtins G.T.nolimit hg hobj hints (Nat.le_trans hlen hn2) hr hFn hb (hF ns hlen)
end
theorem all_at {l : List Bool} (h : l.all id = true) (i : Nat) {b : Bool} (e : l[i]? = some b := by rfl) : b = true :=
  List.all_eq_true.mp h b (List.mem_of_getElem? e)
theorem and1 {a b : Bool} (h : (a && b) = true) : a = true := (Bool.and_eq_true_iff.mp h).1
theorem and2 {a b : Bool} (h : (a && b) = true) : b = true := (Bool.and_eq_true_iff.mp h).2
section
variable {K : PySem.W.Frag} {fa : List He.Fa} {fn : List He.DefD}
theorem fun_ofD (c : He.SaysD fa fn K) (i : Nat) {p : Str × Option Str} {x qual : Str} {st : Stmt} (h : fn[i]? = some ⟨p, x, qual, defArgs st, defBody st, defScope st, [], []⟩ := by rfl) : ∃ fd, L2.Fun K x qual st (He.fAd K p) fd := by
  obtain ⟨fd, ⟨oc, od, dV, kV, doc, pm, an, cdv, ct, osl, e1, e2, e3, e4, _⟩, kp⟩ := c.def_ i h
  refine ⟨fd, ⟨oc, od, kV, doc, pm, an, cdv, ct, osl, ?_, e2, e3⟩, kp⟩
  rcases e4 with ⟨_, q⟩ | ⟨q, _⟩
  · rw [e1, q]
  · exact absurd rfl q
theorem ns_int {x : Str} {i : Int} (c : (He.Fa.int x i).ok K = true) : ∃ t, PySem.W.nsIn K mainGlobals x = some (some (.int i t)) := by
  have c2 : (match PySem.W.nsIn K mainGlobals x with
    | some (some (.int j _)) => decide (j = i)
    | _ => false) = true := c
  split at c2
  · rename_i j t e
    have := of_decide_eq_true c2
    subst this
    exact ⟨t, e⟩
  · cases c2
def oexB (n : String) (K : PySem.W.Frag) (C : Addr) : Bool := match K.lookup C with
  | some ⟨.type ty, _, .cls cd, sl⟩ => decide (ty = "type") && (match cd.mro with
    | c0 :: bm => decide (c0 = .ref C) && (cd.hasDict && (!cd.hasDel && decide (sl.size = 6 ∧ sl[4]? = some (some (.builtin n)))))
    | [] => false)
  | _ => false
def mroB (K : PySem.W.Frag) (C : Addr) : List Value := match K.lookup C with
  | some ⟨_, _, .cls cd, _⟩ => cd.mro.tail
  | _ => []
theorem slots6 {sl : Array (Option Value)} {v : Option Value} (h : sl.size = 6 ∧ sl[4]? = some v) : ∃ k0 k1 k2 k3 k5, sl = #[k0, k1, k2, k3, v, k5] := by
  obtain ⟨l⟩ := sl
  obtain ⟨h1, h2⟩ := h
  match l, h1, h2 with
  | [k0, k1, k2, k3, k4, k5], _, h2 =>
    have : k4 = v := by simpa using h2
    subst this
    exact ⟨_, _, _, _, _, rfl⟩
theorem oexB_ok {n : String} {C : Addr} (h : oexB n K C = true) : ∃ nm q N bs sn sub ab col dd k0 k1 k2 k3 k5, K.lookup C = some (excClassObj nm q C N bs (mroB K C) true sn sub ab col dd k0 k1 k2 k3 k5 n) := by
  unfold oexB at h
  unfold mroB
  split at h
  · rename_i ty dd cd sl e
    have h1 := of_decide_eq_true (and1 h)
    subst h1
    have h := and2 h
    obtain ⟨nm, bs, mro, N, q, hd, sn, sub, ab, col, hdel⟩ := cd
    match mro, h with
    | c0 :: bm, h =>
      have h2 := of_decide_eq_true (and1 h)
      subst h2
      have h3 : hd = true := and1 (and2 h)
      have h4 : (!hdel) = true := and1 (and2 (and2 h))
      obtain ⟨k0, k1, k2, k3, k5, h5⟩ := slots6 (of_decide_eq_true (and2 (and2 (and2 h))))
      subst h3 h5
      have h6 : hdel = false := by simpa using h4
      subst h6
      refine ⟨nm, q, N, bs, sn, sub, ab, col, dd, k0, k1, k2, k3, k5, ?_⟩
      rw [e]
      rfl
  · cases h
theorem oexc_of {C : Addr} (xl : oexB "ValueError.__new__" K C = true) (xy : PySem.HandSPX.refsVE (mroB K C) = true) (sa : PySem.W.findIn K (.ref C) "__setattr__" = some (some (.builtin "object.__setattr__"))) (eC : PySem.W.subIn K (.ref C) (.type "BaseException") = some true)
    (tC : PySem.W.typeIn K (.ref C) = some (.type "type")) (kC : PySem.W.keepIn K (.ref C) = true) : OexC K C := by
  obtain ⟨nm, q, N, bs, sn, sub, ab, col, dd, k0, k1, k2, k3, k5, e⟩ := oexB_ok xl
  exact ⟨⟨nm, q, N, bs, _, sn, sub, ab, col, dd, k0, k1, k2, k3, k5, e, xy⟩, sa, eC, tC, kC⟩
end
end DL
namespace DL
open PySem L2 PySem.Spec
@[simp] theorem rUnal {i j0 j1 : Nat} {e : En} : sUnal i j0 j1 e = (gHd2 (e.getD i .none)).bind fun q => some (.nx, (e.set j0 q.1).set j1 q.2) := rfl
@[simp] theorem rAl {j : Nat} {r : Lf} {e : En} : lAl j r e = (r e).bind fun p => some (p.2.getD j .none :: p.1, p.2) := rfl
end DL
namespace DL
open PySem L2 PySem.Spec
@[simp] theorem rDVals {j : Nat} {e : En} : eDVals j e = (gDVals (e.getD j .none)).bind fun d => some (d, e) := rfl
@[simp] theorem reThaw {f : Ef} {e : En} : eThaw f e = (f e).bind fun p => (grd (flat1 p.1)).bind fun _ => some p := rfl
@[simp] theorem rbTrue {e : En} : bTrue e = some (true, e) := rfl
section
variable {tb : CT} {j : Nat} {f : Ef} {fb fs : Sf} {e : En} {v : PyData}
@[simp] theorem rsAsgE : sAsgE tb j f e = (f e).bind fun p => (gIsOk tb p.1).bind fun w => (asB w).bind fun b => if b = true then (gUn p.1).bind fun d => some (.nx, p.2.set j d) else some (.rt p.1, p.2) := rfl
@[simp] theorem rsDropE : sDropE tb f e = (f e).bind fun p => (gIsOk tb p.1).bind fun w => (asB w).bind fun b => if b = true then some (.nx, p.2) else some (.rt p.1, p.2) := rfl
@[simp] theorem rsRetE : sRetE tb f e = (f e).bind fun p => (gIsOk tb p.1).bind fun _ => some (.rt p.1, p.2) := rfl
@[simp] theorem rsTryB : sTryB tb j fb fs e = (fb e).bind fun p => tryR tb j fs p := rfl
@[simp] theorem rsTryC : sTryC tb fb fs e = (fb e).bind fun p => tryR0 tb fs p := rfl
@[simp] theorem rTry1 : tryR tb j fs (.rt v, e) = (gIsOk tb v).bind fun w => (asB w).bind fun b => if b = true then (gUn v).bind fun d => some (.rt d, e) else fs (e.set j v) := rfl
@[simp] theorem rTry2 : tryR tb j fs (.nx, e) = some (.nx, e) := rfl
@[simp] theorem rTry3 : tryR tb j fs (.bk, e) = some (.bk, e) := rfl
@[simp] theorem rTry4 : tryR tb j fs (.ct, e) = some (.ct, e) := rfl
@[simp] theorem rTry5 : tryR0 tb fs (.rt v, e) = (gIsOk tb v).bind fun w => (asB w).bind fun b => if b = true then (gUn v).bind fun d => some (.rt d, e) else fs e := rfl
@[simp] theorem rTry6 : tryR0 tb fs (.nx, e) = some (.nx, e) := rfl
@[simp] theorem rTry7 : tryR0 tb fs (.bk, e) = some (.bk, e) := rfl
@[simp] theorem rTry8 : tryR0 tb fs (.ct, e) = some (.ct, e) := rfl
end
end DL
namespace DL
open PySem L2 PySem.Spec
section
variable {g gi gv : Gq} {pt : Pf} {e : En}
@[simp] theorem rsAugS : sAugS g pt gi gv e = (g e).bind fun d => (gi e).bind fun i => (gv e).bind fun v => (gAugS d i v).bind fun l => some (.nx, pt e l) := rfl
end
@[simp] theorem rExtV {j l : Nat} {e : En} : eExtV j l e = (gExt (e.getD j .none) (e.getD l .none)).bind fun d => some (.none, e.set j d) := rfl
@[simp] theorem rUpdT {j : Nat} {f : Ef} {e : En} : eUpdT j f e = (f e).bind fun p => (gUpdT (p.2.getD j .none) p.1).bind fun d => some (.none, p.2.set j d) := rfl
end DL
namespace DL
open PySem L2 PySem.Spec
section
variable {j : Nat} {f g : Ef} {e : En} {ng : Bool}
@[simp] theorem rTGet : eTGet j f e = (f e).bind fun p => (gTGet (p.2.getD j .none) p.1).bind fun d => some (d, p.2) := rfl
@[simp] theorem rTOne : eTOne f g e = (f e).bind fun p => (g p.2).bind fun q => (gTOne p.1 q.1).bind fun d => some (d, q.2) := rfl
@[simp] theorem rTInE : eTInE ng f g e = (f e).bind fun p => (g p.2).bind fun q => (gTIn ng q.1 p.1).bind fun d => some (d, q.2) := rfl
@[simp] theorem rsTPutD : sTPutD j f g e = (g e).bind fun p => (f p.2).bind fun q => (gTPut (q.2.getD j .none) q.1 p.1).bind fun d => some (.nx, q.2.set j d) := rfl
end
end DL
namespace DL
open PySem L2 PySem.Spec
def gNewF : PyData → PyData → Option PyData
  | .list ds, x => some (.list (ds ++ [x]))
  | _, _ => none
def gInit : PyData × List PyData → Option PyData
  | (.none, f0 :: _) => some f0
  | _ => none
section
variable {j : Nat} {f g : Ef} {e : En} {fr : Lf} {Fn : DFn}
@[simp] theorem rsNewF : sNewF j f e = (f e).bind fun p => (gNewF (p.2.getD j .none) p.1).bind fun d => some (.nx, p.2.set j d) := by
  show (f e).bind _ = _
  congr 1
  funext p
  cases h : p.2.getD j .none <;> simp only [gNewF] <;> rfl
@[simp] theorem rMake : eMake Fn fr e = (fr e).bind fun p => (Fn (.list [] :: p.1)).bind fun q => (gInit q).bind fun d => some (d, p.2) := by
  show (fr e).bind _ = _
  congr 1
  funext p
  congr 1
  funext q
  obtain ⟨d, fs⟩ := q
  cases d <;> cases fs <;> rfl
end
end DL
namespace DL
open PySem L2 PySem.Spec
@[simp] theorem stb_o {C : Addr} {ns : List Str} {ts : List Ty} : stb (.o C ns ts) = false := rfl
@[simp] theorem stb_f {C : Addr} {ns : List Str} : stb (.f C ns) = true := rfl
@[simp] theorem gInit_mk {d : PyData} {ds : List PyData} : gInit (.none, d :: ds) = some d := rfl
section
variable {j k : Nat} {f : Ef} {e : En} {Fn : DFn} {rty : Ty} {ds : List PyData}
@[simp] theorem rBor : borF rty Fn ds = (Fn ds).bind fun p => (grd (flatR rty p.1)).bind fun _ => some (p.1, ds) := rfl
@[simp] theorem rAppF : eAppF j k f e = (f e).bind fun p => (gAppF k (e.getD j .none) p.1).bind fun d => some (.none, p.2.set j d) := rfl
end
end DL
namespace DL
open PySem L2 PySem.Spec
theorem le_line {n : Nat} (h : n ≤ 1000000) : n ≤ sizeLine := Nat.le_trans h (by decide)
theorem lt_line {n : Nat} (h : n ≤ 1000000) : n < sizeLine := Nat.lt_of_le_of_lt h (by decide)
section
variable {i j : Int} {b c : Bool} {x y z d : PyData} {xs ys zs : List PyData} {s t : Str} {α β γ σ : Type}
@[simp] theorem asB_bool : asB (.bool b) = some b := rfl
@[simp] theorem ifB_bool {p q : Option α} : ifB (.bool b) p q = if b = true then p else q := by cases b <;> rfl
@[simp] theorem un2_ok : un2 (.tuple [x, y]) = some (x, y) := rfl
@[simp] theorem un3_ok : un3 (.tuple [x, y, z]) = some (x, y, z) := rfl
@[simp] theorem un4_ok : un4 (.tuple [x, y, z, d]) = some (x, y, z, d) := rfl
@[simp] theorem grd_true : grd true = some () := rfl
@[simp] theorem xAdd : gAdd (.int i) (.int j) = some (.int (i + j)) := rfl
@[simp] theorem xAddB : gAdd (.bool b) (.int j) = some (.int (bI b + j)) := rfl
@[simp] theorem xSub : DL.gSub (.int i) (.int j) = some (.int (i - j)) := rfl
@[simp] theorem xSubB : DL.gSub (.bool b) (.int j) = some (.int (bI b - j)) := rfl
@[simp] theorem xNeg : gNeg (.int i) = some (.int (-i)) := rfl
@[simp] theorem xAddI : gAddI (.int i) (.int j) = some (.int (i + j)) := rfl
theorem xMul (h : i.natAbs < 2 ^ 64 ∨ j.natAbs < 2 ^ 64) : gMul (.int i) (.int j) = some (.int (i * j)) := by
  show (if mulOk i j = true then _ else _) = _
  rw [if_pos]
  unfold mulOk
  rcases h with h | h
  · rw [decide_eq_true h]; rfl
  · rw [decide_eq_true h, Bool.or_true]
theorem xFdivW {k : Nat} (h : 0 < j) (h2 : j.natAbs < 2 ^ k) (hk : k ≤ 9000) : gFdiv (.int i) (.int j) = some (.int (i / j)) :=
  if_pos ⟨h, Nat.lt_of_lt_of_le ((Nat.log2_lt (show j.natAbs ≠ 0 by omega)).mpr h2) hk⟩
theorem xFdiv (h : 0 < j) (h2 : j < 1073741824) : gFdiv (.int i) (.int j) = some (.int (i / j)) := xFdivW (k := 30) h (by omega) (by decide)
theorem xMod (h : 0 < j) : gMod (.int i) (.int j) = some (.int (i % j)) := if_pos h
@[simp] theorem xLt : gLt (.int i) (.int j) = some (.bool (decide (i < j))) := rfl
@[simp] theorem xGt : gGt (.int i) (.int j) = some (.bool (decide (j < i))) := rfl
@[simp] theorem xLe : gLe (.int i) (.int j) = some (.bool (decide (i ≤ j))) := rfl
@[simp] theorem xGe : gGe (.int i) (.int j) = some (.bool (decide (j ≤ i))) := rfl
theorem eqv_int : PyData.eqv (.int i) (.int j) = decide (i = j) := by
  unfold PyData.eqv
  by_cases h : i = j <;> simp [h]
theorem eqv_str : PyData.eqv (.str s) (.str t) = (s == t) := by unfold PyData.eqv; rfl
theorem eqv_bool : PyData.eqv (.bool b) (.bool c) = (b == c) := by unfold PyData.eqv; cases b <;> cases c <;> rfl
theorem eqv_tuple : PyData.eqv (.tuple xs) (.tuple ys) = PyData.eqvAll xs ys := by rw [PyData.eqv]
theorem eqv_list : PyData.eqv (.list xs) (.list ys) = PyData.eqvAll xs ys := by rw [PyData.eqv]
theorem eqv_nil : PyData.eqvAll xs [] = xs.isEmpty := by cases xs <;> simp [PyData.eqvAll]
theorem gEq_ok (h : x.depth ≤ 60 ∨ y.depth ≤ 60) (hx : x.plain = true) (hy : y.plain = true) : gEq x y = some (.bool (PyData.eqv x y)) := by
  unfold gEq dep pln
  rw [hx, hy, if_pos]
  rw [decide_eq_true]
  · rfl
  · rcases h with h | h
    · exact Nat.le_trans (Nat.min_le_left _ _) h
    · exact Nat.le_trans (Nat.min_le_right _ _) h
theorem gNe_ok (h : x.depth ≤ 60 ∨ y.depth ≤ 60) (hx : x.plain = true) (hy : y.plain = true) : gNe x y = some (.bool (!PyData.eqv x y)) := by
  unfold gNe dep pln
  rw [hx, hy, if_pos]
  rw [decide_eq_true]
  · rfl
  · rcases h with h | h
    · exact Nat.le_trans (Nat.min_le_left _ _) h
    · exact Nat.le_trans (Nat.min_le_right _ _) h
@[simp] theorem xEq : gEq (.int i) (.int j) = some (.bool (decide (i = j))) := by rw [gEq_ok (x := .int i) (y := .int j) (.inl (Nat.zero_le 60)) rfl rfl, eqv_int]
@[simp] theorem xNe : gNe (.int i) (.int j) = some (.bool (!decide (i = j))) := by rw [gNe_ok (x := .int i) (y := .int j) (.inl (Nat.zero_le 60)) rfl rfl, eqv_int]
@[simp] theorem xEqS : gEq (.str s) (.str t) = some (.bool (s == t)) := by rw [gEq_ok (x := .str s) (y := .str t) (.inl (Nat.zero_le 60)) rfl rfl, eqv_str]
@[simp] theorem xNeS : gNe (.str s) (.str t) = some (.bool (!(s == t))) := by rw [gNe_ok (x := .str s) (y := .str t) (.inl (Nat.zero_le 60)) rfl rfl, eqv_str]
@[simp] theorem xEqB : gEq (.bool b) (.bool c) = some (.bool (b == c)) := by rw [gEq_ok (x := .bool b) (y := .bool c) (.inl (Nat.zero_le 60)) rfl rfl, eqv_bool]
@[simp] theorem xNeB : gNe (.bool b) (.bool c) = some (.bool (!(b == c))) := by rw [gNe_ok (x := .bool b) (y := .bool c) (.inl (Nat.zero_le 60)) rfl rfl, eqv_bool]
theorem plain_nil : PyData.plainAll [] = true := by unfold PyData.plainAll; rfl
theorem plain_cons : PyData.plainAll (x :: xs) = (x.plain && PyData.plainAll xs) := by rw [PyData.plainAll]
theorem plain_all (h : ∀ x ∈ xs, x.plain = true) : PyData.plainAll xs = true := by
  induction xs with
  | nil => exact plain_nil
  | cons x xs ih => rw [plain_cons, h x (List.mem_cons_self ..), ih fun y hy => h y (List.mem_cons_of_mem _ hy)]; rfl
theorem plain_map {f : α → PyData} (h : ∀ a, (f a).plain = true) {l : List α} : PyData.plainAll (l.map f) = true := plain_all fun x hx => by
  obtain ⟨a, _, rfl⟩ := List.mem_map.mp hx
  exact h a
theorem depth_all {n : Nat} (h : ∀ x ∈ xs, x.depth ≤ n) : PyData.depthAll xs ≤ n := by
  induction xs with
  | nil => unfold PyData.depthAll; omega
  | cons x xs ih =>
    unfold PyData.depthAll
    exact Nat.max_le.mpr ⟨h x (List.mem_cons_self ..), ih fun y hy => h y (List.mem_cons_of_mem _ hy)⟩
theorem depth_map {n : Nat} {f : α → PyData} (h : ∀ a, (f a).depth ≤ n) {l : List α} : PyData.depthAll (l.map f) ≤ n := depth_all fun x hx => by
  obtain ⟨a, _, rfl⟩ := List.mem_map.mp hx
  exact h a
@[simp] theorem depth_int : (PyData.int i).depth = 0 := rfl
@[simp] theorem plain_int : (PyData.int i).plain = true := rfl
@[simp] theorem xEqNilL : gEq (.list xs) (.list []) = some (.bool xs.isEmpty) := by
  have h : (dep (.list xs) (.list []) && pln (.list xs) (.list [])) = true := by
    have : dep (.list xs) (.list []) = true := decide_eq_true (Nat.le_trans (Nat.min_le_right _ _) (by decide))
    rw [this]
    unfold pln
    exact Bool.or_true _
  unfold gEq
  rw [if_pos h, eqv_list, eqv_nil]
@[simp] theorem xNeNilL : gNe (.list xs) (.list []) = some (.bool (!xs.isEmpty)) := by
  have h : (dep (.list xs) (.list []) && pln (.list xs) (.list [])) = true := by
    have : dep (.list xs) (.list []) = true := decide_eq_true (Nat.le_trans (Nat.min_le_right _ _) (by decide))
    rw [this]
    unfold pln
    exact Bool.or_true _
  unfold gNe
  rw [if_pos h, eqv_list, eqv_nil]
@[simp] theorem xEqNilT : gEq (.tuple xs) (.tuple []) = some (.bool xs.isEmpty) := by
  have h : (dep (.tuple xs) (.tuple []) && pln (.tuple xs) (.tuple [])) = true := by
    have : dep (.tuple xs) (.tuple []) = true := decide_eq_true (Nat.le_trans (Nat.min_le_right _ _) (by decide))
    rw [this]
    unfold pln
    exact Bool.or_true _
  unfold gEq
  rw [if_pos h, eqv_tuple, eqv_nil]
@[simp] theorem xNeNilT : gNe (.tuple xs) (.tuple []) = some (.bool (!xs.isEmpty)) := by
  have h : (dep (.tuple xs) (.tuple []) && pln (.tuple xs) (.tuple [])) = true := by
    have : dep (.tuple xs) (.tuple []) = true := decide_eq_true (Nat.le_trans (Nat.min_le_right _ _) (by decide))
    rw [this]
    unfold pln
    exact Bool.or_true _
  unfold gNe
  rw [if_pos h, eqv_tuple, eqv_nil]
@[simp] theorem xLenL : gLen (.list xs) = some (.int xs.length) := rfl
@[simp] theorem xLenT : gLen (.tuple xs) = some (.int xs.length) := rfl
@[simp] theorem xLenLL : gLenL (.list xs) = some (.int xs.length) := rfl
@[simp] theorem xTupL : gTuple (.list xs) = some (.tuple xs) := rfl
@[simp] theorem xTupT : gTuple (.tuple xs) = some (.tuple xs) := rfl
@[simp] theorem xListL : gList (.list xs) = some (.list xs) := rfl
@[simp] theorem xListT : gList (.tuple xs) = some (.list xs) := rfl
@[simp] theorem xAbs : gAbs (.int i) = some (.int (if i < 0 then -i else i)) := rfl
@[simp] theorem xIxL : gIx (.list xs) (.int i) = atI xs i := rfl
@[simp] theorem xIxT : gIx (.tuple xs) (.int i) = atI xs i := rfl
@[simp] theorem xItem : itemD (.list xs) (.int i) = atI xs i := rfl
@[simp] theorem xSeqL : seqD (.list xs) = some xs := rfl
@[simp] theorem xSeqT : seqD (.tuple xs) = some xs := rfl
@[simp] theorem xEnL : gEn (.list xs) = some (enumD 0 xs) := rfl
@[simp] theorem xEnT : gEn (.tuple xs) = some (enumD 0 xs) := rfl
@[simp] theorem xZipL : zipS (.list xs) (.list ys) = some (zipD xs ys) := rfl
@[simp] theorem xZipT : zipS (.tuple xs) (.tuple ys) = some (zipD xs ys) := rfl
@[simp] theorem xIsa {p : PyData → Bool} : gIsa p d = some (.bool (p d)) := rfl
@[simp] theorem xTruB : gTruth (.bool b) = some b := rfl
@[simp] theorem xTruL : gTruth (.list xs) = some (!xs.isEmpty) := rfl
@[simp] theorem xTruT : gTruth (.tuple xs) = some (!xs.isEmpty) := rfl
def isN : PyData → Bool
  | .none => true
  | _ => false
@[simp] theorem isN0 : isN .none = true := rfl
@[simp] theorem isN1 : isN (.int i) = false := rfl
@[simp] theorem isN2 : isN (.bool b) = false := rfl
@[simp] theorem isN3 : isN (.str s) = false := rfl
@[simp] theorem isN4 : isN (.list xs) = false := rfl
@[simp] theorem isN5 : isN (.tuple xs) = false := rfl
@[simp] theorem xIsN : gIs d .none = some (.bool (isN d)) := by cases d <;> rfl
@[simp] theorem xIsNotN : gIsNot d .none = some (.bool (!isN d)) := by cases d <;> rfl
@[simp] theorem xIsB : gIs (.bool b) (.bool c) = some (.bool (b == c)) := rfl
@[simp] theorem xIsNotB : gIsNot (.bool b) (.bool c) = some (.bool (!(b == c))) := rfl
@[simp] theorem xIsNB : gIs .none (.bool c) = some (.bool false) := rfl
@[simp] theorem xBackT : gBack (.tuple xs) = some (.tuple xs.reverse) := rfl
@[simp] theorem xBackL : gBack (.list xs) = some (.list xs.reverse) := rfl
@[simp] theorem xPrt : prt (.int i) = some (some i) := rfl
theorem xAddT (h : xs.length + ys.length ≤ 1000000) : gAdd (.tuple xs) (.tuple ys) = some (.tuple (xs ++ ys)) := if_pos (le_line h)
theorem xAddL (h : xs.length + ys.length ≤ 1000000) : gAdd (.list xs) (.list ys) = some (.list (xs ++ ys)) := if_pos (le_line h)
theorem xApp (h : xs.length ≤ 1000000) : gApp (.list xs) x = some (.list (xs ++ [x])) := if_pos (lt_line h)
theorem xPow (h : 0 ≤ j) (h2 : j ≤ 1000000) (h3 : i.natAbs < 2 ^ 64) : gPow (.int i) (.int j) = some (.int (i ^ j.toNat)) := if_pos ⟨h, h2, h3⟩
@[simp] theorem scInt : scD (.int i) = true := rfl
@[simp] theorem scBool : scD (.bool b) = true := rfl
@[simp] theorem at0 {a : α} {l : List α} : atI (a :: l) 0 = some a := by
  have : atI (a :: l) ((0 : Nat) : Int) = some a := atI_nat rfl
  exact this
@[simp] theorem at1 {a b : α} {l : List α} : atI (a :: b :: l) 1 = some b := by
  have : atI (a :: b :: l) ((1 : Nat) : Int) = some b := atI_nat rfl
  exact this
@[simp] theorem at2 {a b c : α} {l : List α} : atI (a :: b :: c :: l) 2 = some c := by
  have : atI (a :: b :: c :: l) ((2 : Nat) : Int) = some c := atI_nat rfl
  exact this
theorem ixN_nat {n j : Nat} (h : j < n) : ixN n ((j : Nat) : Int) = some j := by
  unfold ixN
  simp [h]
@[simp] theorem ixn0 {n : Nat} : ixN (n + 1) 0 = some 0 := ixN_nat (j := 0) (by omega)
@[simp] theorem ixn1 {n : Nat} : ixN (n + 1 + 1) 1 = some 1 := ixN_nat (j := 1) (by omega)
@[simp] theorem ixn2 {n : Nat} : ixN (n + 1 + 1 + 1) 2 = some 2 := ixN_nat (j := 2) (by omega)
theorem at_nat {l : List α} {n : Nat} (h : n < l.length) : atI l ((n : Nat) : Int) = some l[n] := atI_nat (List.getElem?_eq_getElem h)
def natD (i : Nat) : PyData := .int (i : Nat)
theorem rng1_ok {n : Int} (h : 0 ≤ n) (h2 : n ≤ 1000000) : rng1 (.int n) = some ((List.range n.toNat).map natD) := by
  show (if n.toNat ≤ sizeLine ∧ -(2 ^ 62) ≤ n ∧ n < 2 ^ 62 then some (rngD 0 n.toNat) else none) = _
  rw [if_pos ⟨le_line (by omega), by omega, by omega⟩]
  unfold rngD natD
  simp
theorem rng1_nat {n : Nat} (h2 : n ≤ 1000000) : rng1 (.int (n : Nat)) = some ((List.range n).map natD) := by
  rw [rng1_ok (by omega) (by omega)]; rfl
theorem cut_take {k : Nat} : cutD xs none (some (k : Nat)) = xs.take k := by
  unfold cutD
  rw [HT.sIx_nat]
  show (xs.drop 0).take (min k xs.length - 0) = _
  rw [List.drop_zero, Nat.sub_zero]
  by_cases h : k ≤ xs.length
  · rw [Nat.min_eq_left h]
  · rw [Nat.min_eq_right (by omega), List.take_length, List.take_of_length_le (by omega)]
theorem mapS_map {f : β → Option γ} {g : α → β} : ∀ {l : List α}, mapS (l.map g) f = mapS l fun a => f (g a)
  | [] => rfl
  | a :: l => by show (f (g a)).bind _ = (f (g a)).bind _; rw [mapS_map]
theorem mapS_ok {f : α → Option β} {g : α → β} : ∀ {l : List α}, (∀ a ∈ l, f a = some (g a)) → mapS l f = some (l.map g)
  | [], _ => rfl
  | a :: l, h => by
    show (f a).bind _ = _
    rw [h a (List.mem_cons_self ..), mapS_ok (l := l) fun b hb => h b (List.mem_cons_of_mem _ hb)]; rfl
theorem mapS_of {f : β → Option γ} {m : α → β} {g : α → γ} {l : List α} (h : ∀ a ∈ l, f (m a) = some (g a)) : mapS (l.map m) f = some (l.map g) := by rw [mapS_map]; exact mapS_ok h
theorem filS_map {f : β → Option (Option γ)} {g : α → β} : ∀ {l : List α}, filS (l.map g) f = filS l fun a => f (g a)
  | [] => rfl
  | a :: l => by show (f (g a)).bind _ = (f (g a)).bind _; rw [filS_map]
theorem filS_ok {f : α → Option (Option β)} {p : α → Bool} {g : α → β} : ∀ {l : List α}, (∀ a ∈ l, f a = some (if p a = true then some (g a) else none)) → filS l f = some ((l.filter p).map g)
  | [], _ => rfl
  | a :: l, h => by
    show (f a).bind _ = _
    rw [h a (List.mem_cons_self ..), filS_ok (l := l) fun b hb => h b (List.mem_cons_of_mem _ hb)]
    by_cases hp : p a = true
    · rw [if_pos hp, List.filter_cons_of_pos hp]; rfl
    · rw [if_neg hp, List.filter_cons_of_neg hp]; rfl
theorem filS_of {f : β → Option (Option γ)} {m : α → β} {p : α → Bool} {g : α → γ} {l : List α} (h : ∀ a ∈ l, f (m a) = some (if p a = true then some (g a) else none)) : filS (l.map m) f = some ((l.filter p).map g) := by rw [filS_map]; exact filS_ok h
theorem foldS_map {f : β → σ → Option σ} {g : α → β} : ∀ {l : List α} {s : σ}, foldS (l.map g) f s = foldS l (fun a s => f (g a) s) s
  | [], s => rfl
  | a :: l, s => by show (f (g a) s).bind _ = (f (g a) s).bind _; congr 1; funext s'; exact foldS_map
theorem forS_map {f : β → σ → Option (Out × σ)} {g : α → β} : ∀ {l : List α} {s : σ}, forS (l.map g) f s = forS l (fun a s => f (g a) s) s
  | [], s => rfl
  | a :: l, s => by
    show (f (g a) s).bind _ = (f (g a) s).bind _
    congr 1; funext p
    split <;> first | rfl | exact forS_map
theorem foldS_inv {f : α → σ → Option σ} (Inv : Nat → σ → Prop) : ∀ {l : List α} {k : Nat} {s : σ}, Inv k s → (∀ i a s, l[i]? = some a → Inv (k + i) s → ∃ s', f a s = some s' ∧ Inv (k + i + 1) s') → ∃ s', foldS l f s = some s' ∧ Inv (k + l.length) s'
  | [], k, s, h0, _ => ⟨s, rfl, h0⟩
  | a :: l, k, s, h0, hs => by
    obtain ⟨s1, h1, h2⟩ := hs 0 a s rfl h0
    obtain ⟨s', h3, h4⟩ := foldS_inv Inv (l := l) (k := k + 1) h2 fun i b t hb hi => by
      have := hs (i + 1) b t (by simpa using hb) (by rw [show k + (i + 1) = k + 1 + i by omega]; exact hi)
      rw [show k + (i + 1) + 1 = k + 1 + i + 1 by omega] at this
      exact this
    refine ⟨s', ?_, by rw [List.length_cons, show k + (l.length + 1) = k + 1 + l.length by omega]; exact h4⟩
    show (f a s).bind _ = _
    rw [h1]; exact h3
theorem forS_inv {f : α → σ → Option (Out × σ)} (Inv : Nat → σ → Prop) : ∀ {l : List α} {k : Nat} {s : σ}, Inv k s → (∀ i a s, l[i]? = some a → Inv (k + i) s → ∃ s', f a s = some (.nx, s') ∧ Inv (k + i + 1) s') → ∃ s', forS l f s = some (.nx, s') ∧ Inv (k + l.length) s'
  | [], k, s, h0, _ => ⟨s, rfl, h0⟩
  | a :: l, k, s, h0, hs => by
    obtain ⟨s1, h1, h2⟩ := hs 0 a s rfl h0
    obtain ⟨s', h3, h4⟩ := forS_inv Inv (l := l) (k := k + 1) h2 fun i b t hb hi => by
      have := hs (i + 1) b t (by simpa using hb) (by rw [show k + (i + 1) = k + 1 + i by omega]; exact hi)
      rw [show k + (i + 1) + 1 = k + 1 + i + 1 by omega] at this
      exact this
    refine ⟨s', ?_, by rw [List.length_cons, show k + (l.length + 1) = k + 1 + l.length by omega]; exact h4⟩
    show (f a s).bind _ = _
    rw [h1]; exact h3
theorem forS_range {f : PyData → σ → Option (Out × σ)} (Inv : Nat → σ → Prop) {n : Nat} {s : σ} (h0 : Inv 0 s) (hs : ∀ i s, i < n → Inv i s → ∃ s', f (natD i) s = some (.nx, s') ∧ Inv (i + 1) s') : ∃ s', forS ((List.range n).map natD) f s = some (.nx, s') ∧ Inv n s' := by
  rw [forS_map]
  obtain ⟨s', h1, h2⟩ := forS_inv (f := fun a s => f (natD a) s) Inv (l := List.range n) (k := 0) h0 fun i a s ha hi => by
    obtain ⟨hn, rfl⟩ := List.getElem?_eq_some_iff.mp ha
    rw [List.length_range] at hn
    rw [List.getElem_range]
    rw [Nat.zero_add] at hi ⊢
    exact hs i s hn hi
  rw [List.length_range, Nat.zero_add] at h2
  exact ⟨s', h1, h2⟩
theorem forS_all {f : α → Unit → Option (Out × Unit)} {l : List α} (h : ∀ a ∈ l, f a () = some (.nx, ())) : forS l f () = some (.nx, ()) := by
  induction l with
  | nil => rfl
  | cons a l ih =>
    show (f a ()).bind _ = _
    rw [h a (List.mem_cons_self ..)]
    exact ih fun b hb => h b (List.mem_cons_of_mem _ hb)
def rtO : Option PyData → Out
  | some d => .rt d
  | none => .nx
@[simp] theorem thenS_rtO {o : Option PyData} {s : σ} {Kk : σ → Option β} {R : PyData → σ → Option β} : thenS (rtO o, s) Kk R = o.elim (Kk s) fun d => R d s := by cases o <;> rfl
theorem enum_map (f : α → PyData) : ∀ (k : Nat) (l : List α), enumD k (l.map f) = (l.zipIdx k).map fun p => .tuple [.int (p.2 : Nat), f p.1]
  | _, [] => rfl
  | k, x :: l => by
    rw [List.map_cons, List.zipIdx_cons, List.map_cons]
    unfold enumD
    rw [enum_map f (k + 1) l]
end
mutual
def wt : PyData → Nat
  | .none => 20
  | .bool _ => 20
  | .int i => 64 * i.natAbs.log2 + 20
  | .str x => (reprText x).length + 20
  | .list xs => wtL xs + 20
  | .tuple xs => wtL xs + 20
  | .dict kvs => (PyData.dict kvs).shown.length + 20
def wtL : List PyData → Nat
  | [] => 0
  | x :: xs => wt x + 2 + wtL xs
end
structure Vl (n s : Nat) (d : PyData) : Prop where
  sh : d.showable = true
  dp : d.depth ≤ n
  wt : wt d ≤ s
structure VlL (n s : Nat) (xs : List PyData) : Prop where
  sh : PyData.showableAll xs = true
  dp : PyData.depthAll xs ≤ n
  wt : wtL xs ≤ s
section
variable {n s t n' s' : Nat} {d x : PyData} {xs ys : List PyData}
theorem Vl.mono (h : Vl n s d) (a : n ≤ n') (b : s ≤ s') : Vl n' s' d := ⟨h.sh, Nat.le_trans h.dp a, Nat.le_trans h.wt b⟩
theorem VlL.mono (h : VlL n s xs) (a : n ≤ n') (b : s ≤ s') : VlL n' s' xs := ⟨h.sh, Nat.le_trans h.dp a, Nat.le_trans h.wt b⟩
theorem VlL.nil : VlL n s [] := ⟨by rw [PyData.showableAll], by rw [PyData.depthAll]; omega, by rw [wtL]; omega⟩
theorem VlL.cons (h : Vl n s x) (r : VlL n t xs) : VlL n (s + 2 + t) (x :: xs) :=
  ⟨by rw [PyData.showableAll, h.sh, r.sh]; rfl, by rw [PyData.depthAll]; exact Nat.max_le.mpr ⟨h.dp, r.dp⟩, by rw [wtL]; have := h.wt; have := r.wt; omega⟩
theorem VlL.head (h : VlL n s (x :: xs)) : Vl n s x := by
  obtain ⟨a, b, c⟩ := h
  rw [PyData.showableAll, Bool.and_eq_true] at a
  rw [PyData.depthAll] at b
  rw [wtL] at c
  exact ⟨a.1, Nat.le_trans (Nat.le_max_left _ _) b, by omega⟩
theorem VlL.tail (h : VlL n s (x :: xs)) : VlL n s xs := by
  obtain ⟨a, b, c⟩ := h
  rw [PyData.showableAll, Bool.and_eq_true] at a
  rw [PyData.depthAll] at b
  rw [wtL] at c
  exact ⟨a.2, Nat.le_trans (Nat.le_max_right _ _) b, by omega⟩
theorem VlL.split (h : VlL n s (x :: xs)) : ∃ s1 s2, Vl n s1 x ∧ VlL n s2 xs ∧ s1 + 2 + s2 ≤ s := by
  have c := h.wt
  rw [wtL] at c
  exact ⟨DL.wt x, DL.wtL xs, ⟨h.head.sh, h.head.dp, Nat.le_refl _⟩, ⟨h.tail.sh, h.tail.dp, Nat.le_refl _⟩, c⟩
theorem VlL.mem : ∀ {xs : List PyData}, VlL n s xs → x ∈ xs → Vl n s x
  | y :: ys, h, m => by
    rcases List.mem_cons.mp m with rfl | m
    · exact h.head
    · exact VlL.mem h.tail m
theorem VlL.append : ∀ {xs : List PyData} {s : Nat}, VlL n s xs → VlL n t ys → VlL n (s + t) (xs ++ ys)
  | [], s, _, r => r.mono (Nat.le_refl _) (by omega)
  | x :: xs, s, h, r => by
    obtain ⟨s1, s2, h1, h2, e⟩ := h.split
    exact (VlL.cons h1 (VlL.append h2 r)).mono (Nat.le_refl _) (by omega)
theorem VlL.drop : ∀ {xs : List PyData} (k : Nat), VlL n s xs → VlL n s (xs.drop k)
  | xs, 0, h => h
  | [], k + 1, h => h
  | x :: xs, k + 1, h => VlL.drop (xs := xs) k h.tail
theorem VlL.take : ∀ {xs : List PyData} {s : Nat} (k : Nat), VlL n s xs → VlL n s (xs.take k)
  | xs, s, 0, h => by rw [List.take_zero]; exact .nil
  | [], s, k + 1, h => h
  | x :: xs, s, k + 1, h => by
    obtain ⟨s1, s2, h1, h2, e⟩ := h.split
    exact (VlL.cons h1 (VlL.take (xs := xs) k h2)).mono (Nat.le_refl _) (by omega)
theorem VlL.reverse : ∀ {xs : List PyData} {s : Nat}, VlL n s xs → VlL n s xs.reverse
  | [], s, h => h
  | x :: xs, s, h => by
    obtain ⟨s1, s2, h1, h2, e⟩ := h.split
    rw [List.reverse_cons]
    exact ((VlL.reverse h2).append (VlL.cons h1 (VlL.nil (s := 0)))).mono (Nat.le_refl _) (by omega)
theorem VlL.tuple (h : VlL n s xs) : Vl (n + 1) (s + 20) (.tuple xs) := ⟨by rw [PyData.showable]; exact h.sh, by rw [PyData.depth]; have := h.dp; omega, by rw [DL.wt]; have := h.wt; omega⟩
theorem VlL.list (h : VlL n s xs) : Vl (n + 1) (s + 20) (.list xs) := ⟨by rw [PyData.showable]; exact h.sh, by rw [PyData.depth]; have := h.dp; omega, by rw [DL.wt]; have := h.wt; omega⟩
theorem Vl.tup (h : Vl (n + 1) s (.tuple xs)) : VlL n s xs := ⟨by have := h.sh; rwa [PyData.showable] at this, by have := h.dp; rw [PyData.depth] at this; omega, by have := h.wt; rw [DL.wt] at this; omega⟩
theorem VlL.len : ∀ {xs : List PyData} {s : Nat}, VlL n s xs → xs.length ≤ s
  | [], _, _ => Nat.zero_le _
  | x :: xs, s, h => by
    obtain ⟨s1, s2, _, h2, e⟩ := h.split
    have := VlL.len h2
    rw [List.length_cons]; omega
end
end DL
namespace DL
open PySem L2 PySem.Spec
section
variable {i j : Int} {b c : Bool} {x y z d : PyData} {xs ys zs : List PyData} {s t : Str} {α β γ σ : Type}
theorem mapE_typ {f : α → σ → Option (β × σ)} (m : γ → β) (Inv : Nat → σ → Prop) (P : Nat → γ → Prop) : ∀ {l : List α} {k : Nat} {s : σ}, Inv k s → (∀ i a s, l[i]? = some a → Inv (k + i) s → ∃ y s', f a s = some (m y, s') ∧ Inv (k + i + 1) s' ∧ P (k + i) y) → ∃ (ys : List γ) (s' : σ), mapE l f s = some (ys.map m, s') ∧ Inv (k + l.length) s' ∧ ys.length = l.length ∧ ∀ (i : Nat) (y : γ), ys[i]? = some y → P (k + i) y
  | [], k, s, h0, _ => ⟨[], s, rfl, h0, rfl, fun i y h => by simp at h⟩
  | a :: l, k, s, h0, hs => by
    obtain ⟨y, s1, h1, h2, h3⟩ := hs 0 a s rfl h0
    obtain ⟨ys, s', h4, h5, h6, h7⟩ := mapE_typ m Inv P (l := l) (k := k + 1) h2 fun i b t hb hi => by
      have := hs (i + 1) b t (by simpa using hb) (by rw [show k + (i + 1) = k + 1 + i by omega]; exact hi)
      rw [show k + (i + 1) + 1 = k + 1 + i + 1 by omega, show k + (i + 1) = k + 1 + i by omega] at this
      exact this
    refine ⟨y :: ys, s', ?_, by rw [List.length_cons, show k + (l.length + 1) = k + 1 + l.length by omega]; exact h5, by simp [h6], fun i z hz => ?_⟩
    · show (f a s).bind _ = _
      rw [h1]
      show (mapE l f s1).bind _ = _
      rw [h4]; rfl
    · cases i with
      | zero => simp at hz; subst hz; exact h3
      | succ i => rw [show k + (i + 1) = k + 1 + i by omega]; exact h7 i z (by simpa using hz)
theorem whS_step {n : Nat} {c : σ → Option Bool} {f : σ → Option σ} {s s' : σ} (h : c s = some true) (h2 : f s = some s') : whS (n + 1) c f s = whS n c f s' := by
  show (c s).bind _ = _
  rw [h]
  show (f s).bind _ = _
  rw [h2]; rfl
theorem whS_end {n : Nat} {c : σ → Option Bool} {f : σ → Option σ} {s : σ} (h : c s = some false) : whS (n + 1) c f s = some s := by
  show (c s).bind _ = _
  rw [h]; rfl
theorem plain_ints {l : List Int} : PyData.plainAll (l.map PyData.int) = true := plain_map fun _ => rfl
theorem depth_ints {l : List Int} : PyData.depthAll (l.map PyData.int) ≤ 60 := depth_map fun _ => Nat.zero_le _
theorem any_ints {l : List Int} : (l.map PyData.int).any (fun y => PyData.eqv y (.int i)) = decide (i ∈ l) := by
  induction l with
  | nil => simp
  | cons a l ih =>
    rw [List.map_cons, List.any_cons, ih, eqv_int]
    by_cases h : a = i
    · subst h
      rw [decide_eq_true rfl, Bool.true_or, decide_eq_true (List.mem_cons_self ..)]
    · rw [decide_eq_false h, Bool.false_or]
      have : (i ∈ a :: l) ↔ i ∈ l := by rw [List.mem_cons]; exact ⟨fun q => q.resolve_left fun z => h z.symm, .inr⟩
      rw [decide_eq_decide.mpr this]
theorem xNotInL {l : List Int} : gNotIn (.int i) (.list (l.map .int)) = some (.bool (!decide (i ∈ l))) := by
  show (if _ then _ else _) = _
  rw [if_pos (by rw [plain_ints, decide_eq_true (Nat.le_trans (Nat.min_le_left _ _) depth_ints)]; rfl), any_ints]
theorem xInL {l : List Int} : gIn (.int i) (.list (l.map .int)) = some (.bool (decide (i ∈ l))) := by
  show (if _ then _ else _) = _
  rw [if_pos (by rw [plain_ints, decide_eq_true (Nat.le_trans (Nat.min_le_left _ _) depth_ints)]; rfl), any_ints]
theorem xInT {l : List Int} : gIn (.int i) (.tuple (l.map .int)) = some (.bool (decide (i ∈ l))) := by
  show (if _ then _ else _) = _
  rw [if_pos (by rw [plain_ints, decide_eq_true (Nat.le_trans (Nat.min_le_left _ _) depth_ints)]; rfl), any_ints]
theorem xPop {n : Nat} (h : n < xs.length) (h2 : xs.length ≤ 1000000) : gPopAt (.list xs) (.int (n : Nat)) = some (xs[n], .list (xs.eraseIdx n)) := by
  simp only [gPopAt]
  rw [if_pos ⟨by omega, by omega⟩, ixN_nat h]
  show (xs[n]?).bind _ = _
  rw [List.getElem?_eq_getElem h]; rfl
theorem int_nat {r : Int} (h : 0 ≤ r) : ∃ k : Nat, r = (k : Nat) := ⟨r.toNat, by omega⟩
theorem filter_left [DecidableEq α] (t : List α) : ∀ {l : List α}, l.Nodup → l.length ≤ (l.filter fun x => !decide (x ∈ t)).length + t.length := by
  induction t with
  | nil => intro l _; rw [List.filter_eq_self.mpr (by simp)]; omega
  | cons a t ih =>
    intro l hl
    have h1 := ih (l := l.erase a) (hl.erase a)
    have h2 : (l.erase a).filter (fun x => !decide (x ∈ t)) = l.filter fun x => !decide (x ∈ a :: t) := by
      rw [List.Nodup.erase_eq_filter hl, List.filter_filter]
      congr 1; funext x
      rw [Bool.eq_iff_iff]; simp [and_comm]
    rw [h2] at h1
    have h3 : l.length ≤ (l.erase a).length + 1 := by rw [List.length_erase]; split <;> omega
    rw [List.length_cons]; omega
@[simp] theorem ints_map {l : List Int} : intsOf (l.map .int) = some l := by
  induction l with
  | nil => rfl
  | cons a l ih => show (intsOf (l.map .int)).map (a :: ·) = _; rw [ih]; rfl
end
end DL
namespace DL
open PySem L2 PySem.Spec
section
variable {tw : CT} {j : Nat} {gg : PyData → Option PyData} {f : Ef} {e : En}
@[simp] theorem rAsgE1 : sAsgE1 tw j gg f e = (f e).bind fun p => (gIsOk tw p.1).bind fun w => (asB w).bind fun b => if b = true then (gUn p.1).bind fun d => (gg d).bind fun r => some (.nx, p.2.set j r) else some (.rt p.1, p.2) := rfl
end
end DL
namespace DL
open PySem L2 PySem.Spec
@[simp] theorem stb_e {a : Addr} {d : Option Addr} {fl : List (Str × V)} {c : Str} : stb (.e a d fl c) = false := rfl
section
variable {tw : CT} {j k : Nat} {call : Ef} {e : En} {g : Gq}
@[simp] theorem rAppE : sAppE tw j k call e = (call e).bind fun p => (gIsOk tw p.1).bind fun w => (asB w).bind fun b => if b = true then (gUn p.1).bind fun d => (gAppF k (e.getD j .none) d).bind fun d2 => some (.nx, p.2.set j d2) else some (.rt p.1, p.2) := rfl
@[simp] theorem rLstP : eLstP g e = (g e).bind fun d => (gList d).bind fun r => some (r, e) := rfl
end
end DL
namespace DL
open PySem L2 PySem.Spec
def dcB (vs : List Nat) (gf : Gf) (tf : Bf) (kf vf : Ef) (d : PyData) (e : En) : Option (Option (PyData × PyData) × En) :=
  (gf d e).bind fun e1 => (tf e1).bind fun p => if p.1 = true then (kf p.2).bind fun q => (vf q.2).bind fun r => some (some (q.1, r.1), restE e r.2 vs) else some (none, restE e p.2 vs)
@[simp] theorem rDc {it : Lf} {vs : List Nat} {gf : Gf} {tf : Bf} {kf vf : Ef} {e : En} : eDc it vs gf tf kf vf e = (it e).bind fun p => (dcL vs gf tf kf vf p.1 [] p.2).bind fun q => some (.dict (q.1.map kvD), restE p.2 q.2 vs) := rfl
@[simp] theorem rdcB {vs : List Nat} {gf : Gf} {tf : Bf} {kf vf : Ef} {d : PyData} {e : En} : dcB vs gf tf kf vf d e = (gf d e).bind fun e1 => (tf e1).bind fun p => if p.1 = true then (kf p.2).bind fun q => (vf q.2).bind fun r => some (some (q.1, r.1), restE e r.2 vs) else some (none, restE e p.2 vs) := rfl
def gThIn : PyData → PyData → Option PyData
  | .list (_ :: ds), r => some (.list (r :: ds))
  | _, _ => none
def gThOut : PyData → PyData → Option PyData
  | r, .list (_ :: es) => (grd (flat1 r && es.all flatF)).bind fun _ => some (.list (.none :: es))
  | _, _ => none
@[simp] theorem rThawO {i j : Nat} {f : Ef} {e : En} : eThawO i j f e = (gThIn (e.getD i .none) (e.getD j .none)).bind fun o => (f (e.set i o)).bind fun p => (gThOut p.1 (p.2.getD i .none)).bind fun w => some (p.1, e.set i w) := by
  unfold eThawO
  cases h : e.getD i .none with
  | list ds =>
    cases ds with
    | nil => rfl
    | cons d ds =>
      show (f (e.set i (.list (e.getD j .none :: ds)))).bind _ = (f (e.set i (.list (e.getD j .none :: ds)))).bind _
      congr 1
      funext p
      cases h2 : p.2.getD i .none with
      | list es =>
        cases es with
        | nil => rfl
        | cons e0 es =>
          show (grd _).bind _ = ((grd _).bind _).bind _
          rw [Option.bind_assoc]
          rfl
      | _ => rfl
  | _ => rfl
end DL
namespace LK
open PySem L2 PySem.Spec DL
def tb_insert_lesson_x : CT := [("TooManyLessons", ["bound"]), ("NoFreeHour", ["person", "side"])]
def tb__law_stuck_t1 : CT := [("NoFreeHour", ["person", "side"])]
def tb__law_stuck_t1_insert_lesson_x : CT := [("NoFreeHour", ["person", "side"])]
def E__law_deck_1 : Ef := (e1 gAbs (eVar 1))
def S__law_deck : Sf := (sRet (eLst (lCons (eLc (iSeq (eSlQ 0 none (some 63))) [1] (gNm 1) bYes E__law_deck_1) (lCons (eC (.int 0)) (lCons (eC (.int 0)) (lCons (e2 gAdd (eC (.int 11)) (e2 gMul (eC (.int 37)) (eLenQ 0))) lNil))))))
def F__law_deck : DFn := runF S__law_deck [.q] 1
def B__law_next_1 : Sf := (sPost [2] [1, 2, 3]
  (sSeq (sAsg 2 (ePopAt (gSub1 (qVar 0) (qC (.int 0))) (pSub1 (qVar 0) (qC (.int 0)) (pVar 0)) (qC (.int 0))))
  (sSeq (sSet (qVar 0) (pVar 0) (qC (.int 3)) (e2 gMod (e2 gAdd (e2 gAdd (e2 gMul (eQ (q2 gIx (qVar 0) (qC (.int 3)))) (eC (.int 48271))) (eVar 2)) (eC (.int 7))) (eC (.int 2147483647))))
  (sSet (qVar 0) (pVar 0) (qC (.int 1)) (e2 gMul (eVar 2) (e1 gInt (e2 gGe (eVar 2) (e2 gPow (eC (.int 10)) (eC (.int 18))))))))))
def W__law_next_1 : Bf := (bAnd (bQT (q2 gEq (q2 gIx (qVar 0) (qC (.int 1))) (qC (.int 0)))) (bQT (q2 gNe (q2 gIx (qVar 0) (qC (.int 0))) (qC (.list [])))))
def R__law_next_1 : Sf := (sRet (e2 gMod (e2 gFdiv (e2 gMod (e2 gMul (eQ (q2 gIx (qVar 0) (qC (.int 3)))) (eQ (q2 gIx (qVar 0) (qC (.int 3))))) (eC (.int 2147483629))) (eC (.int 8))) (eVar 1)))
def S__law_next : Sf := (sSeq (sPre [2] (sWh fuel W__law_next_1
    B__law_next_1))
  (sSeq (sIf (bQT (q2 gGt (q2 gIx (qVar 0) (qC (.int 1))) (qC (.int 0))))
    (sSeq (sAsg 3 (e2 gMod (eQ (q2 gIx (qVar 0) (qC (.int 1)))) (eVar 1)))
  (sSeq (sSet (qVar 0) (pVar 0) (qC (.int 1)) (e2 gFdiv (eQ (q2 gIx (qVar 0) (qC (.int 1)))) (eVar 1)))
  (sRet (eVar 3))))
    sNil)
  (sSeq (sSet (qVar 0) (pVar 0) (qC (.int 2)) (e2 gAdd (eQ (q2 gIx (qVar 0) (qC (.int 2)))) (eC (.int 1))))
  (sSeq (sSet (qVar 0) (pVar 0) (qC (.int 3)) (e2 gMod (e2 gAdd (e2 gAdd (e2 gMul (eQ (q2 gIx (qVar 0) (qC (.int 3)))) (eC (.int 69621))) (e2 gMul (eC (.int 30011)) (eQ (q2 gIx (qVar 0) (qC (.int 2)))))) (eC (.int 12345))) (eC (.int 2147483647))))
  R__law_next_1))))
def F__law_next : DFn := runF S__law_next [(.r [(.l .s), .s, .s, .s]), .s] 2
def E__law_roster_1 : Ef := (eTup (lCons (eCallL F__law_next 0 0 (lCons eLend (lCons (eVar 3) lNil))) (lCons (eCallL F__law_next 0 0 (lCons eLend (lCons (eVar 4) lNil))) lNil)))
def S__law_roster : Sf := (sSeq (sAsg 2 (e2 gIx (eLst (lCons (eC (.int 1)) (lCons (eC (.int 2)) (lCons (eC (.int 3)) (lCons (eC (.int 4)) (lCons (eC (.int 8)) lNil)))))) (eCallL F__law_next 0 0 (lCons eLend (lCons (eC (.int 5)) lNil)))))
  (sSeq (sTg (eTup (lCons (e2 gAdd (eC (.int 1)) (eCallL F__law_next 0 0 (lCons eLend (lCons (eVar 2) lNil)))) (lCons (e2 gAdd (eC (.int 1)) (eCallL F__law_next 0 0 (lCons eLend (lCons (eVar 2) lNil)))) lNil))) (gTp 2 (gsCons (gNm 3) (gsCons (gNm 4) gsNil))))
  (sSeq (sAsg 5 (eLc (iR1 (eCallL F__law_next 0 0 (lCons eLend (lCons (e2 gAdd (eVar 1) (eC (.int 1))) lNil)))) [6] (gNm 6) bYes E__law_roster_1))
  (sSeq (sIf (bAnd (bQT (q2 gNe (qVar 5) (qC (.list [])))) (bT (e2 gEq (eCallL F__law_next 0 0 (lCons eLend (lCons (eC (.int 3)) lNil))) (eC (.int 0)))))
    (sSet (qVar 5) (pVar 5) (qC (.int (-1))) (eItm (qVar 5) (qC (.int 0))))
    sNil)
  (sRet (eTup (lCons (eVar 3) (lCons (eVar 4) (lCons (e1 gTuple (eVar 5)) lNil)))))))))
def F__law_roster : DFn := runF S__law_roster [(.r [(.l .s), .s, .s, .s]), .s] 5
def T__law_degrees_1 : Bf := (bT (e2 gEq (e2 gIx (eVar 4) (eVar 2)) (eVar 3)))
def E__law_degrees_1 : Ef := (eVar 4)
def E__law_degrees_2 : Ef := (e1 gLen (eLc (iSeq (e2 gIx (eVar 0) (eC (.int 2)))) [4] (gNm 4) T__law_degrees_1 E__law_degrees_1))
def B__law_degrees_1 : Sf := (sPost [2] [0, 1, 2, 3, 4]
  (sDrop (eApp 1 (eLc (iR1 (e2 gIx (eVar 0) (eVar 2))) [3] (gNm 3) bYes E__law_degrees_2))))
def S__law_degrees : Sf := (sSeq (sAsg 1 (eLst lNil))
  (sSeq (sFor (iFg [2] (iR1 (eC (.int 2)))) (gNm 2)
    B__law_degrees_1)
  (sRet (eVar 1))))
def F__law_degrees : DFn := runF S__law_degrees [.s] 4
def S__law_degree : Sf := (sSeq (sTg (eCall F__law_degrees (lCons (eVar 0) lNil)) (gTpL 2 (gsCons (gNm 1) (gsCons (gNm 2) gsNil))))
  (sRet (e1 gMax (e2 gAdd (eVar 1) (eVar 2)))))
def F__law_degree : DFn := runF S__law_degree [.s] 2
def B__law_shuffled_1 : Sf := (sPost [] [1, 2, 3]
  (sDrop (eApp 3 (ePopG 2 (eCallL F__law_next 0 0 (lCons eLend (lCons (eQ (q1 gLen (qVar 2))) lNil)))))))
def W__law_shuffled_1 : Bf := (bQT (q2 gNe (qVar 2) (qC (.list []))))
def S__law_shuffled : Sf := (sSeq (sAsg 2 (e1 gList (eVar 1)))
  (sSeq (sAsg 3 (eLst lNil))
  (sSeq (sPre [] (sWh fuel W__law_shuffled_1
    B__law_shuffled_1))
  (sRet (eVar 3)))))
def F__law_shuffled : DFn := runF S__law_shuffled [(.r [(.l .s), .s, .s, .s]), .s] 2
def T_lessons_of_1 : Bf := (bT (e2 gEq (e2 gIx (eVar 5) (eVar 3)) (eVar 2)))
def E_lessons_of_1 : Ef := (eVar 4)
def S_lessons_of : Sf := (sSeq (sAsg 3 (eIf (bT (e2 gEq (eVar 1) (eC (.str "teacher")))) (eC (.int 0)) (eC (.int 1))))
  (sRet (eLc (iEn (e2 gIx (eVar 0) (eC (.int 2)))) [4, 5] (gTp 2 (gsCons (gNm 4) (gsCons (gNm 5) gsNil))) T_lessons_of_1 E_lessons_of_1)))
def F_lessons_of : DFn := runF S_lessons_of [.s, .s, .s] 3
def E_free_hours_1 : Ef := (e2 gIx (eVar 1) (eVar 6))
def T_free_hours_1 : Bf := (bT (e2 gNotIn (eVar 7) (eVar 5)))
def E_free_hours_2 : Ef := (eVar 7)
def S_free_hours : Sf := (sSeq (sAsg 5 (eLc (iSeq (eCall F_lessons_of (lCons (eVar 0) (lCons (eVar 3) (lCons (eVar 4) lNil))))) [6] (gNm 6) bYes E_free_hours_1))
  (sRet (eLc (iR1 (eVar 2)) [7] (gNm 7) T_free_hours_1 E_free_hours_2)))
def F_free_hours : DFn := runF S_free_hours [.s, .s, .s, .s, .s] 3
def S_are_rivals : Sf := (sSeq (sPar 3 4 (lCons (e2 gIx (e2 gIx (eVar 0) (eC (.int 2))) (eVar 1)) (lCons (e2 gIx (e2 gIx (eVar 0) (eC (.int 2))) (eVar 2)) lNil)))
  (sRet (eAnd (e2 gNe (eVar 1) (eVar 2)) (eOr (e2 gEq (e2 gIx (eVar 3) (eC (.int 0))) (e2 gIx (eVar 4) (eC (.int 0)))) (e2 gEq (e2 gIx (eVar 3) (eC (.int 1))) (e2 gIx (eVar 4) (eC (.int 1))))))))
def F_are_rivals : DFn := runF S_are_rivals [.s, .s, .s] 2
def T_rivals_1 : Bf := (bOf (eCall F_are_rivals (lCons (eVar 0) (lCons (eVar 1) (lCons (eVar 2) lNil)))))
def E_rivals_1 : Ef := (eVar 2)
def S_rivals : Sf := (sRet (e1 gTuple (eLc (iR1 (e1 gLen (e2 gIx (eVar 0) (eC (.int 2))))) [2] (gNm 2) T_rivals_1 E_rivals_1)))
def F_rivals : DFn := runF S_rivals [.s, .s] 1
def B_chain_of_1 : Sf := (sPost [7] [0, 1, 2, 3, 4, 5, 6, 7]
  (sIf (bAnd (bT (e2 gIn (e2 gIx (eVar 1) (eVar 7)) (eVar 4))) (bQT (q2 gNotIn (qVar 7) (qVar 5))))
    (sDrop (eApp 5 (eVar 7)))
    sNil))
def B_chain_of_2 : Sf := (sPost [7] [0, 1, 2, 3, 4, 5, 6, 7]
  (sSeq (sFor (iFg [7] (iSeq (eCall F_rivals (lCons (eVar 0) (lCons (eItm (qVar 5) (qVar 6)) lNil))))) (gNm 7)
    B_chain_of_1)
  (sAug 6 gAddI (eC (.int 1)))))
def W_chain_of_1 : Bf := (bQT (q2 gLt (qVar 6) (q1 gLen (qVar 5))))
def S_chain_of : Sf := (sSeq (sAsg 4 (eTup (lCons (e2 gIx (eVar 1) (eVar 2)) (lCons (eVar 3) lNil))))
  (sSeq (sAsg 5 (eLst (lCons (eVar 2) lNil)))
  (sSeq (sAsg 6 (eC (.int 0)))
  (sSeq (sPre [7] (sWh fuel W_chain_of_1
    B_chain_of_2))
  (sRet (e1 gTuple (e1 gSorted (eVar 5))))))))
def F_chain_of : DFn := runF S_chain_of [.s, .s, .s, .s] 4
def E_exchange_1 : Ef := (eIf (bT (e2 gIn (eVar 6) (eVar 5))) (eDGet 4 (eVar 7)) (eVar 7))
def S_exchange : Sf := (sSeq (sAsg 4 (eDisp2 (e2 gIx (eVar 1) (eVar 2)) (eVar 3) (eVar 3) (e2 gIx (eVar 1) (eVar 2))))
  (sSeq (sAsg 5 (eCall F_chain_of (lCons (eVar 0) (lCons (eVar 1) (lCons (eVar 2) (lCons (eVar 3) lNil))))))
  (sRet (e1 gTuple (eLc (iEn (eVar 1)) [6, 7] (gTp 2 (gsCons (gNm 6) (gsCons (gNm 7) gsNil))) bYes E_exchange_1)))))
def F_exchange : DFn := runF S_exchange [.s, .s, .s, .s] 4
def T_insert_lesson_1 : Bf := (bT (e2 gIn (eVar 8) (eVar 6)))
def E_insert_lesson_1 : Ef := (eVar 8)
def T_insert_lesson_2 : Bf := (bT (e2 gEq (e2 gIx (eVar 1) (eVar 10)) (eVar 8)))
def E_insert_lesson_2 : Ef := (eVar 10)
def S_insert_lesson : Sf := (sSeq (sIf (bT (e2 gGe (e1 gLen (e2 gIx (eVar 0) (eC (.int 2)))) (eC (.int 16))))
    sNever
    sNil)
  (sSeq (sAsg 5 (eCall F_free_hours (lCons (eVar 0) (lCons (eVar 1) (lCons (eVar 2) (lCons (eC (.str "teacher")) (lCons (eVar 3) lNil)))))))
  (sSeq (sIf (bT (e2 gEq (eVar 5) (eLst lNil)))
    sNever
    sNil)
  (sSeq (sAsg 6 (eCall F_free_hours (lCons (eVar 0) (lCons (eVar 1) (lCons (eVar 2) (lCons (eC (.str "group")) (lCons (eVar 4) lNil)))))))
  (sSeq (sIf (bT (e2 gEq (eVar 6) (eLst lNil)))
    sNever
    sNil)
  (sSeq (sAsg 7 (eLc (iSeq (eVar 5)) [8] (gNm 8) T_insert_lesson_1 E_insert_lesson_1))
  (sSeq (sIf (bT (e2 gNe (eVar 7) (eLst lNil)))
    (sRet (e2 gAdd (eVar 1) (eTup (lCons (e2 gIx (eVar 7) (eC (.int 0))) lNil))))
    sNil)
  (sSeq (sAsg 8 (e2 gIx (eVar 5) (eC (.int 0))))
  (sSeq (sAsg 9 (eLc (iSeq (eCall F_lessons_of (lCons (eVar 0) (lCons (eC (.str "group")) (lCons (eVar 4) lNil))))) [10] (gNm 10) T_insert_lesson_2 E_insert_lesson_2))
  (sRet (e2 gAdd (eCall F_exchange (lCons (eVar 0) (lCons (eVar 1) (lCons (e2 gIx (eVar 9) (eC (.int 0))) (lCons (e2 gIx (eVar 6) (eC (.int 0))) lNil))))) (eTup (lCons (eVar 8) lNil)))))))))))))
def F_insert_lesson : DFn := runF S_insert_lesson [.s, .s, .s, .s, .s] 6
def S__law_whole : Sf := (sRet (eAnd (e1 (gIsa PyData.isInt) (eVar 0)) (eNotT (bOf (e1 (gIsa PyData.isBool) (eVar 0))))))
def F__law_whole : DFn := runF S__law_whole [.s] 0
def S__law_are_rivals : Sf := (sSeq (sPar 3 4 (lCons (e2 gIx (e2 gIx (eVar 0) (eC (.int 2))) (eVar 1)) (lCons (e2 gIx (e2 gIx (eVar 0) (eC (.int 2))) (eVar 2)) lNil)))
  (sRet (eAnd (e2 gNe (eVar 1) (eVar 2)) (eOr (e2 gEq (e2 gIx (eVar 3) (eC (.int 0))) (e2 gIx (eVar 4) (eC (.int 0)))) (e2 gEq (e2 gIx (eVar 3) (eC (.int 1))) (e2 gIx (eVar 4) (eC (.int 1))))))))
def F__law_are_rivals : DFn := runF S__law_are_rivals [.s, .s, .s] 2
def T__law_is_schedule_1 : Bf := (bOr (bNot (bOf (eCall F__law_whole (lCons (eVar 3) lNil)))) (bNot (bT (eChain gLe gLe (eC (.int 0)) (eVar 3) (e2 gPow (eC (.int 10)) (eC (.int 6)))))))
def E__law_is_schedule_1 : Ef := (eVar 3)
def T__law_is_schedule_2 : Bf := (bAnd (bT (e2 gEq (e2 gIx (eVar 1) (eVar 4)) (e2 gIx (eVar 1) (eVar 2)))) (bOf (eCall F__law_are_rivals (lCons (eVar 0) (lCons (eVar 4) (lCons (eVar 2) lNil))))))
def E__law_is_schedule_2 : Ef := (eVar 4)
def B__law_is_schedule_1 : Sf := (sPost [2] [0, 1, 2, 3, 4]
  (sIf (bT (e2 gNe (eLc (iR1 (eVar 2)) [4] (gNm 4) T__law_is_schedule_2 E__law_is_schedule_2) (eLst lNil)))
    (sRet (eC (.bool false)))
    sNil))
def S__law_is_schedule : Sf := (sSeq (sIf (bOr (bNot (bOf (e1 (gIsa PyData.isTuple) (eVar 1)))) (bT (e2 gNe (e1 gLen (eVar 1)) (e1 gLen (e2 gIx (eVar 0) (eC (.int 2)))))))
    (sRet (eC (.bool false)))
    sNil)
  (sSeq (sIf (bT (e2 gNe (eLc (iSeq (eVar 1)) [3] (gNm 3) T__law_is_schedule_1 E__law_is_schedule_1) (eLst lNil)))
    (sRet (eC (.bool false)))
    sNil)
  (sSeq (sFor (iFg [2] (iR1 (e1 gLen (eVar 1)))) (gNm 2)
    B__law_is_schedule_1)
  (sRet (eC (.bool true))))))
def F__law_is_schedule : DFn := runF S__law_is_schedule [.s, .s] 3
def T__law_filled_1 : Bf := (bT (e2 gGe (eVar 11) (eVar 2)))
def E__law_filled_1 : Ef := (eVar 11)
def T__law_filled_2 : Bf := (bT (e2 gNe (eVar 12) (eVar 13)))
def E__law_filled_2 : Ef := (e1 gTuple (e1 gSorted (eLst (lCons (eVar 12) (lCons (eVar 13) lNil)))))
def B__law_filled_1 : Sf := (sPost [8, 9, 10] [0, 1, 2, 3, 4, 5, 6, 7, 8, 9, 10, 11, 12, 13]
  (sSeq (sAsg 9 (eCall F_insert_lesson (lCons (eTup (lCons (eVar 3) (lCons (eVar 4) (lCons (eVar 7) lNil)))) (lCons (eVar 6) (lCons (eVar 2) (lCons (e2 gIx (e2 gIx (eVar 5) (eVar 8)) (eC (.int 0))) (lCons (e2 gIx (e2 gIx (eVar 5) (eVar 8)) (eC (.int 1))) lNil)))))))
  (sSeq (sAsg 7 (e2 gAdd (eVar 7) (eTup (lCons (e2 gIx (eVar 5) (eVar 8)) lNil))))
  (sSeq (sIf (bOr (bNot (bOf (eCall F__law_is_schedule (lCons (eTup (lCons (eVar 3) (lCons (eVar 4) (lCons (eVar 7) lNil)))) (lCons (eVar 9) lNil))))) (bT (e2 gNe (eLc (iSeq (eVar 9)) [11] (gNm 11) T__law_filled_1 E__law_filled_1) (eLst lNil))))
    (sRet (eC (.bool false)))
    sNil)
  (sSeq (sAsg 10 (e1 gSortSetP (eLc (iZp (eVar 6) (eVar 9)) [12, 13] (gTp 2 (gsCons (gNm 12) (gsCons (gNm 13) gsNil))) T__law_filled_2 E__law_filled_2)))
  (sSeq (sIf (bT (e2 gGt (e1 gLen (eVar 10)) (eC (.int 1))))
    (sRet (eC (.bool false)))
    sNil)
  (sAsg 6 (eVar 9))))))))
def S__law_filled : Sf := (sSeq (sTg (eVar 0) (gTp 3 (gsCons (gNm 3) (gsCons (gNm 4) (gsCons (gNm 5) gsNil)))))
  (sSeq (sTg (eTup (lCons (eTup lNil) (lCons (eTup lNil) lNil))) (gTp 2 (gsCons (gNm 6) (gsCons (gNm 7) gsNil))))
  (sSeq (sFor (iFg [8, 9, 10] (iSeq (eVar 1))) (gNm 8)
    B__law_filled_1)
  (sRet (eC (.bool true))))))
def F__law_filled : DFn := runF S__law_filled [.s, .s, .s] 11
def T_insert_lesson_x_1 : Bf := (bT (e2 gIn (eVar 8) (eVar 6)))
def E_insert_lesson_x_1 : Ef := (eVar 8)
def T_insert_lesson_x_2 : Bf := (bT (e2 gEq (e2 gIx (eVar 1) (eVar 10)) (eVar 8)))
def E_insert_lesson_x_2 : Ef := (eVar 10)
def S_insert_lesson_x : Sf := (sSeq (sIf (bT (e2 gGe (e1 gLen (e2 gIx (eVar 0) (eC (.int 2)))) (eC (.int 16))))
    (sRet (e1 (gRz "TooManyLessons") (eTup (lCons (eC (.int 16)) lNil))))
    sNil)
  (sSeq (sAsg 5 (eCall F_free_hours (lCons (eVar 0) (lCons (eVar 1) (lCons (eVar 2) (lCons (eC (.str "teacher")) (lCons (eVar 3) lNil)))))))
  (sSeq (sIf (bT (e2 gEq (eVar 5) (eLst lNil)))
    (sRet (e1 (gRz "NoFreeHour") (eTup (lCons (eC (.str "teacher")) (lCons (eVar 3) lNil)))))
    sNil)
  (sSeq (sAsg 6 (eCall F_free_hours (lCons (eVar 0) (lCons (eVar 1) (lCons (eVar 2) (lCons (eC (.str "group")) (lCons (eVar 4) lNil)))))))
  (sSeq (sIf (bT (e2 gEq (eVar 6) (eLst lNil)))
    (sRet (e1 (gRz "NoFreeHour") (eTup (lCons (eC (.str "group")) (lCons (eVar 4) lNil)))))
    sNil)
  (sSeq (sAsg 7 (eLc (iSeq (eVar 5)) [8] (gNm 8) T_insert_lesson_x_1 E_insert_lesson_x_1))
  (sSeq (sIf (bT (e2 gNe (eVar 7) (eLst lNil)))
    (sRet (e1 gOk (e2 gAdd (eVar 1) (eTup (lCons (e2 gIx (eVar 7) (eC (.int 0))) lNil)))))
    sNil)
  (sSeq (sAsg 8 (e2 gIx (eVar 5) (eC (.int 0))))
  (sSeq (sAsg 9 (eLc (iSeq (eCall F_lessons_of (lCons (eVar 0) (lCons (eC (.str "group")) (lCons (eVar 4) lNil))))) [10] (gNm 10) T_insert_lesson_x_2 E_insert_lesson_x_2))
  (sRet (e1 gOk (e2 gAdd (eCall F_exchange (lCons (eVar 0) (lCons (eVar 1) (lCons (e2 gIx (eVar 9) (eC (.int 0))) (lCons (e2 gIx (eVar 6) (eC (.int 0))) lNil))))) (eTup (lCons (eVar 8) lNil))))))))))))))
def F_insert_lesson_x : DFn := runF S_insert_lesson_x [.s, .s, .s, .s, .s] 6
def rt__law_stuck_t1_NoFreeHour : List (Str × Bool) := [("NoFreeHour", true)]
def B__law_stuck_1 : Sf := (sPost [8] [8, 9, 10, 11]
  (sSeq (sAsgE tb__law_stuck_t1_insert_lesson_x 6 (eCall F_insert_lesson_x (lCons (eTup (lCons (eVar 3) (lCons (eVar 4) (lCons (eVar 7) lNil)))) (lCons (eVar 6) (lCons (eVar 2) (lCons (e2 gIx (e2 gIx (eVar 5) (eVar 8)) (eC (.int 0))) (lCons (e2 gIx (e2 gIx (eVar 5) (eVar 8)) (eC (.int 1))) lNil)))))))
  (sAsg 7 (e2 gAdd (eVar 7) (eTup (lCons (e2 gIx (eVar 5) (eVar 8)) lNil))))))
def T__law_stuck_1 : Bf := (bT (e2 gEq (e2 gIx (eVar 11) (eVar 10)) (e1 (gFldE tb__law_stuck_t1 "person") (eVar 9))))
def E__law_stuck_1 : Ef := (eVar 11)
def S__law_stuck : Sf := (sSeq (sTg (eVar 0) (gTp 3 (gsCons (gNm 3) (gsCons (gNm 4) (gsCons (gNm 5) gsNil)))))
  (sSeq (sTg (eTup (lCons (eTup lNil) (lCons (eTup lNil) lNil))) (gTp 2 (gsCons (gNm 6) (gsCons (gNm 7) gsNil))))
  (sSeq (sTryB tb__law_stuck_t1 9 (sFor (iFg [8] (iSeq (eVar 1))) (gNm 8)
    B__law_stuck_1)
    (sIf (bT (e1 (gIsE rt__law_stuck_t1_NoFreeHour) (eVar 9)))
    (sSeq (sAsg 10 (e1 gInt (e2 gEq (e1 (gFldE tb__law_stuck_t1 "side") (eVar 9)) (eC (.str "group")))))
  (sRet (e2 gEq (e1 gLen (eLc (iSeq (eVar 7)) [11] (gNm 11) T__law_stuck_1 E__law_stuck_1)) (eVar 2))))
    sLost))
  (sRet (eC (.bool false))))))
def F__law_stuck : DFn := runF S__law_stuck [.s, .s, .s] 9
def B_law_1 : Sf := (sPost [5, 6] [0, 1, 2, 3, 4, 5, 6]
  (sSeq (sAsg 6 (eCallL F__law_shuffled 0 1 (lCons eLend (lCons (eLsR (iR1 (e1 gLen (e2 gIx (eVar 3) (eC (.int 2)))))) lNil))))
  (sSeq (sIf (bNot (bOf (eCall F__law_filled (lCons (eVar 3) (lCons (eVar 6) (lCons (e2 gAdd (e2 gMax2 (eC (.int 1)) (eVar 4)) (e2 gIx (eLst (lCons (eC (.int 0)) (lCons (eC (.int 0)) (lCons (eC (.int 1)) lNil)))) (eCallL F__law_next 0 1 (lCons eLend (lCons (eC (.int 3)) lNil))))) lNil))))))
    (sRet (eC (.bool false)))
    sNil)
  (sIf (bAnd (bT (e2 gGt (eVar 4) (eC (.int 1)))) (bNot (bOf (eCall F__law_stuck (lCons (eVar 3) (lCons (eVar 6) (lCons (e2 gSub (eVar 4) (eC (.int 1))) lNil)))))))
    (sRet (eC (.bool false)))
    sNil))))
def B_law_2 : Sf := (sPost [2, 3, 4, 5, 6] [0, 1, 2, 3, 4, 5, 6]
  (sSeq (sAsg 3 (eCallL F__law_roster 0 1 (lCons eLend (lCons (eC (.int 16)) lNil))))
  (sSeq (sAsg 4 (eCall F__law_degree (lCons (eVar 3) lNil)))
  (sFor (iFg [5, 6] (iR1 (eC (.int 2)))) (gNm 5)
    B_law_1))))
def S_law : Sf := (sSeq (sAsg 1 (eCallL F__law_deck 0 0 (lCons eLend lNil)))
  (sSeq (sFor (iFg [2, 3, 4, 5, 6] (iR1 (eC (.int 5)))) (gNm 2)
    B_law_2)
  (sRet (eC (.bool true)))))
def F_law : DFn := runF S_law [.q] 6
end LK
namespace LK
open PySem L2 PySem.Spec DL
def C__law_deck_1 (d : PyData) : Option (PyData) :=
(gAbs d).bind fun v3 =>
some v3
theorem C__law_deck_1_eq (script cell : PyData) (xs : List PyData) : lcL [1] (gNm 1) bYes E__law_deck_1 xs [script, cell] = (mapS xs (C__law_deck_1)).bind fun r => some (r, [script, cell]) :=
  lc_map (vs := [1]) (gf := (gNm 1)) (ef := E__law_deck_1) (C__law_deck_1) (fun d => by simp -implicitDefEqProofs [E__law_deck_1, C__law_deck_1, ite_bind', ifB_bind, thenS_bind, Option.bind_assoc]) xs
def f__law_deck (script : PyData) : Option PyData :=
(gSlL script none (some 63)).bind fun v1 =>
(seqD v1).bind fun v2 =>
(mapS v2 (C__law_deck_1)).bind fun v4 =>
(gLenL script).bind fun v5 =>
(gMul (.int 37) v5).bind fun v6 =>
(gAdd (.int 11) v6).bind fun v7 =>
some (.list [(.list v4), (.int 0), (.int 0), v7])
theorem f__law_deck_eq (script : PyData) : F__law_deck [script] = (f__law_deck script).bind fun r => some (r, [script]) := by
  simp -implicitDefEqProofs [F__law_deck, S__law_deck, f__law_deck, C__law_deck_1_eq, ite_bind', ifB_bind, thenS_bind, Option.bind_assoc]
def WL__law_next_1 (s : PyData) : Option Bool :=
(gIx s (.int 1)).bind fun v14 =>
(gEq v14 (.int 0)).bind fun v15 =>
(asB v15).bind fun v16 =>
(if v16 = true then ((gIx s (.int 0)).bind fun v17 =>
(gNe v17 (.list [])).bind fun v18 =>
(asB v18).bind fun v19 =>
some v19) else (some false)).bind fun v20 =>
some v20
def L__law_next_1 (s : PyData) : Option PyData :=
(itemD s (.int 0)).bind fun v1 =>
(gPopAt v1 (.int 0)).bind fun v2 =>
(gIx (setD s (.int 0) v2.2) (.int 3)).bind fun v3 =>
(grd (scD v3)).bind fun _ =>
(gMul v3 (.int 48271)).bind fun v4 =>
(gAdd v4 v2.1).bind fun v5 =>
(gAdd v5 (.int 7)).bind fun v6 =>
(gMod v6 (.int 2147483647)).bind fun v7 =>
(gSet (setD s (.int 0) v2.2) (.int 3) v7).bind fun v8 =>
(gPow (.int 10) (.int 18)).bind fun v9 =>
(gGe v2.1 v9).bind fun v10 =>
(gInt v10).bind fun v11 =>
(gMul v2.1 v11).bind fun v12 =>
(gSet v8 (.int 1) v12).bind fun v13 =>
some v13
theorem L__law_next_1_eq (deck_here many digit : PyData) (n : Nat) : whL W__law_next_1 B__law_next_1 n [deck_here, many, .none, digit] = (whS n (WL__law_next_1) (L__law_next_1) deck_here).bind fun r => some (.nx, [r, many, .none, digit]) :=
  wh_fold (cf := W__law_next_1) (sf := B__law_next_1) (fun s : PyData => [s, many, .none, digit]) (WL__law_next_1) (L__law_next_1) (fun s => by simp -implicitDefEqProofs [W__law_next_1, WL__law_next_1, ite_bind', ifB_bind, thenS_bind, Option.bind_assoc]) (fun s => by simp -implicitDefEqProofs [B__law_next_1, L__law_next_1, ite_bind', ifB_bind, thenS_bind, Option.bind_assoc]) n deck_here
def K__law_next_1 (deck_here many : PyData) : Option (PyData × PyData) :=
(gIx deck_here (.int 3)).bind fun v41 =>
(grd (scD v41)).bind fun _ =>
(gIx deck_here (.int 3)).bind fun v42 =>
(grd (scD v42)).bind fun _ =>
(gMul v41 v42).bind fun v43 =>
(gMod v43 (.int 2147483629)).bind fun v44 =>
(gFdiv v44 (.int 8)).bind fun v45 =>
(gMod v45 many).bind fun v46 =>
some (v46, deck_here)
theorem K__law_next_1_eq (deck_here many cell digit i0' i1' : PyData) : ((R__law_next_1 [deck_here, many, cell, digit]).bind fun p => retR [(.r [(.l .s), .s, .s, .s]), .s] [i0', i1'] p) = (K__law_next_1 deck_here many).bind fun r => some (r.1, [r.2, i1']) := by
  simp -implicitDefEqProofs [R__law_next_1, K__law_next_1, ite_bind', ifB_bind, thenS_bind, Option.bind_assoc]
def f__law_next (deck_here many : PyData) : Option (PyData × PyData) :=
(whS fuel (WL__law_next_1) (L__law_next_1) deck_here).bind fun v21 =>
(gIx v21 (.int 1)).bind fun v22 =>
(gGt v22 (.int 0)).bind fun v23 =>
(asB v23).bind fun v24 =>
if v24 = true then ((gIx v21 (.int 1)).bind fun v25 =>
(grd (scD v25)).bind fun _ =>
(gMod v25 many).bind fun v26 =>
(gIx v21 (.int 1)).bind fun v27 =>
(grd (scD v27)).bind fun _ =>
(gFdiv v27 many).bind fun v28 =>
(gSet v21 (.int 1) v28).bind fun v29 =>
some (v26, v29)) else ((gIx v21 (.int 2)).bind fun v30 =>
(grd (scD v30)).bind fun _ =>
(gAdd v30 (.int 1)).bind fun v31 =>
(gSet v21 (.int 2) v31).bind fun v32 =>
(gIx v32 (.int 3)).bind fun v33 =>
(grd (scD v33)).bind fun _ =>
(gMul v33 (.int 69621)).bind fun v34 =>
(gIx v32 (.int 2)).bind fun v35 =>
(grd (scD v35)).bind fun _ =>
(gMul (.int 30011) v35).bind fun v36 =>
(gAdd v34 v36).bind fun v37 =>
(gAdd v37 (.int 12345)).bind fun v38 =>
(gMod v38 (.int 2147483647)).bind fun v39 =>
(gSet v32 (.int 3) v39).bind fun v40 =>
K__law_next_1 v40 many)
theorem f__law_next_eq (deck_here many : PyData) : F__law_next [deck_here, many] = (f__law_next deck_here many).bind fun r => some (r.1, [r.2, many]) := by
  simp -implicitDefEqProofs [F__law_next, S__law_next, f__law_next, L__law_next_1_eq, K__law_next_1_eq, ite_bind', ifB_bind, thenS_bind, Option.bind_assoc]
def C__law_roster_1 (teachers groups : PyData) (d : PyData) (s : PyData) : Option (PyData × PyData) :=
(f__law_next s teachers).bind fun v11 =>
(f__law_next v11.2 groups).bind fun v12 =>
some ((.tuple [v11.1, v12.1]), v12.2)
theorem C__law_roster_1_eq (deck_here most people teachers groups lessons k : PyData) (xs : List PyData) : lcL [6] (gNm 6) bYes E__law_roster_1 xs [deck_here, most, people, teachers, groups, lessons, k] = (mapE xs (C__law_roster_1 teachers groups) deck_here).bind fun r => some (r.1, [r.2, most, people, teachers, groups, lessons, k]) :=
  lc_mapE (vs := [6]) (gf := (gNm 6)) (ef := E__law_roster_1) (fun s : PyData => [s, most, people, teachers, groups, lessons, k]) (C__law_roster_1 teachers groups) (fun d s => by simp -implicitDefEqProofs [E__law_roster_1, C__law_roster_1, f__law_next_eq, ite_bind', ifB_bind, thenS_bind, Option.bind_assoc]) xs deck_here
def f__law_roster (deck_here most : PyData) : Option (PyData × PyData) :=
(f__law_next deck_here (.int 5)).bind fun v1 =>
(gIx (.list [(.int 1), (.int 2), (.int 3), (.int 4), (.int 8)]) v1.1).bind fun v2 =>
(f__law_next v1.2 v2).bind fun v3 =>
(gAdd (.int 1) v3.1).bind fun v4 =>
(f__law_next v3.2 v2).bind fun v5 =>
(gAdd (.int 1) v5.1).bind fun v6 =>
(un2 (.tuple [v4, v6])).bind fun v7 =>
(gAdd most (.int 1)).bind fun v8 =>
(f__law_next v5.2 v8).bind fun v9 =>
(rng1 v9.1).bind fun v10 =>
(mapE v10 (C__law_roster_1 v7.1 v7.2) v9.2).bind fun v13 =>
(gNe (.list v13.1) (.list [])).bind fun v14 =>
(asB v14).bind fun v15 =>
(if v15 = true then ((f__law_next v13.2 (.int 3)).bind fun v16 =>
(gEq v16.1 (.int 0)).bind fun v17 =>
(asB v17).bind fun v18 =>
some (v18, v16.2)) else (some (false, v13.2))).bind fun v19 =>
(if v19.1 = true then ((itemD (.list v13.1) (.int 0)).bind fun v20 =>
(gSet (.list v13.1) (.int (-1)) v20).bind fun v21 =>
some v21) else (some (.list v13.1))).bind fun v22 =>
(gTuple v22).bind fun v23 =>
some ((.tuple [v7.1, v7.2, v23]), v19.2)
theorem f__law_roster_eq (deck_here most : PyData) : F__law_roster [deck_here, most] = (f__law_roster deck_here most).bind fun r => some (r.1, [r.2, most]) := by
  simp -implicitDefEqProofs [F__law_roster, S__law_roster, f__law_roster, C__law_roster_1_eq, f__law_next_eq, ite_bind', ifB_bind, thenS_bind, Option.bind_assoc]
def C__law_degrees_2 (side person : PyData) (d : PyData) : Option (Option PyData) :=
(gIx d side).bind fun v6 =>
(gEq v6 person).bind fun v7 =>
(asB v7).bind fun v8 =>
if v8 = true then (some (some d)) else (some none)
theorem C__law_degrees_2_eq (roster_here found side person row : PyData) (xs : List PyData) : lcL [4] (gNm 4) T__law_degrees_1 E__law_degrees_1 xs [roster_here, found, side, person, row] = (filS xs (C__law_degrees_2 side person)).bind fun r => some (r, [roster_here, found, side, person, row]) :=
  lc_fil (vs := [4]) (gf := (gNm 4)) (tf := T__law_degrees_1) (ef := E__law_degrees_1) (C__law_degrees_2 side person) (fun d => by simp -implicitDefEqProofs [T__law_degrees_1, E__law_degrees_1, C__law_degrees_2, ite_bind', ifB_bind, thenS_bind, Option.bind_assoc]) xs
def C__law_degrees_1 (roster_here side : PyData) (d : PyData) : Option (PyData) :=
(gIx roster_here (.int 2)).bind fun v4 =>
(seqD v4).bind fun v5 =>
(filS v5 (C__law_degrees_2 side d)).bind fun v9 =>
(gLen (.list v9)).bind fun v10 =>
some v10
theorem C__law_degrees_1_eq (roster_here found side person row : PyData) (xs : List PyData) : lcL [3] (gNm 3) bYes E__law_degrees_2 xs [roster_here, found, side, person, row] = (mapS xs (C__law_degrees_1 roster_here side)).bind fun r => some (r, [roster_here, found, side, person, row]) :=
  lc_map (vs := [3]) (gf := (gNm 3)) (ef := E__law_degrees_2) (C__law_degrees_1 roster_here side) (fun d => by simp -implicitDefEqProofs [E__law_degrees_2, C__law_degrees_1, C__law_degrees_2_eq, ite_bind', ifB_bind, thenS_bind, Option.bind_assoc]) xs
def L__law_degrees_1 (roster_here : PyData) (d : PyData) (s : PyData) : Option PyData :=
(gIx roster_here d).bind fun v2 =>
(rng1 v2).bind fun v3 =>
(mapS v3 (C__law_degrees_1 roster_here d)).bind fun v11 =>
(gApp s (.list v11)).bind fun found12 =>
some found12
theorem L__law_degrees_1_eq (roster_here found person row : PyData) (xs : List PyData) : forL (gNm 2) B__law_degrees_1 xs [roster_here, found, .none, person, row] = (foldS xs (L__law_degrees_1 roster_here) found).bind fun r => some (.nx, [roster_here, r, .none, person, row]) :=
  for_fold (gf := (gNm 2)) (sf := B__law_degrees_1) (fun s : PyData => [roster_here, s, .none, person, row]) (L__law_degrees_1 roster_here) (fun d s => by simp (maxSteps := 2000000) -implicitDefEqProofs [B__law_degrees_1, L__law_degrees_1, C__law_degrees_1_eq, ite_bind', ifB_bind, thenS_bind, Option.bind_assoc]) xs found
def f__law_degrees (roster_here : PyData) : Option PyData :=
(rng1 (.int 2)).bind fun v1 =>
(foldS v1 (L__law_degrees_1 roster_here) (.list [])).bind fun v13 =>
some v13
theorem f__law_degrees_eq (roster_here : PyData) : F__law_degrees [roster_here] = (f__law_degrees roster_here).bind fun r => some (r, [roster_here]) := by
  simp -implicitDefEqProofs [F__law_degrees, S__law_degrees, f__law_degrees, L__law_degrees_1_eq, ite_bind', ifB_bind, thenS_bind, Option.bind_assoc]
def f__law_degree (roster_here : PyData) : Option PyData :=
(f__law_degrees roster_here).bind fun v1 =>
(un2L v1).bind fun v2 =>
(gAdd v2.1 v2.2).bind fun v3 =>
(gMax v3).bind fun v4 =>
some v4
theorem f__law_degree_eq (roster_here : PyData) : F__law_degree [roster_here] = (f__law_degree roster_here).bind fun r => some (r, [roster_here]) := by
  simp -implicitDefEqProofs [F__law_degree, S__law_degree, f__law_degree, f__law_degrees_eq, ite_bind', ifB_bind, thenS_bind, Option.bind_assoc]
def WL__law_shuffled_1 (s : PyData × PyData × PyData) : Option Bool :=
(gNe s.2.1 (.list [])).bind fun v6 =>
(asB v6).bind fun v7 =>
some v7
def L__law_shuffled_1 (s : PyData × PyData × PyData) : Option (PyData × PyData × PyData) :=
(gLen s.2.1).bind fun v2 =>
(grd (scD v2)).bind fun _ =>
(f__law_next s.1 v2).bind fun v3 =>
(gPopAt s.2.1 v3.1).bind fun v4 =>
(gApp s.2.2 v4.1).bind fun found5 =>
some (v3.2, v4.2, found5)
theorem L__law_shuffled_1_eq (deck_here items left found : PyData) (n : Nat) : whL W__law_shuffled_1 B__law_shuffled_1 n [deck_here, items, left, found] = (whS n (WL__law_shuffled_1) (L__law_shuffled_1) (deck_here, left, found)).bind fun r => some (.nx, [r.1, items, r.2.1, r.2.2]) :=
  wh_fold (cf := W__law_shuffled_1) (sf := B__law_shuffled_1) (fun s : PyData × PyData × PyData => [s.1, items, s.2.1, s.2.2]) (WL__law_shuffled_1) (L__law_shuffled_1) (fun s => by simp -implicitDefEqProofs [W__law_shuffled_1, WL__law_shuffled_1, f__law_next_eq, ite_bind', ifB_bind, thenS_bind, Option.bind_assoc]) (fun s => by simp -implicitDefEqProofs [B__law_shuffled_1, L__law_shuffled_1, f__law_next_eq, ite_bind', ifB_bind, thenS_bind, Option.bind_assoc]) n (deck_here, left, found)
def f__law_shuffled (deck_here items : PyData) : Option (PyData × PyData) :=
(gList items).bind fun v1 =>
(whS fuel (WL__law_shuffled_1) (L__law_shuffled_1) (deck_here, v1, (.list []))).bind fun v8 =>
some (v8.2.2, v8.1)
theorem f__law_shuffled_eq (deck_here items : PyData) : F__law_shuffled [deck_here, items] = (f__law_shuffled deck_here items).bind fun r => some (r.1, [r.2, items]) := by
  simp -implicitDefEqProofs [F__law_shuffled, S__law_shuffled, f__law_shuffled, L__law_shuffled_1_eq, f__law_next_eq, ite_bind', ifB_bind, thenS_bind, Option.bind_assoc]
def C_lessons_of_1 (person place : PyData) (d : PyData) : Option (Option PyData) :=
(un2 d).bind fun v6 =>
(gIx v6.2 place).bind fun v7 =>
(gEq v7 person).bind fun v8 =>
(asB v8).bind fun v9 =>
if v9 = true then (some (some v6.1)) else (some none)
theorem C_lessons_of_1_eq (roster side person place index lesson : PyData) (xs : List PyData) : lcL [4, 5] (gTp 2 (gsCons (gNm 4) (gsCons (gNm 5) gsNil))) T_lessons_of_1 E_lessons_of_1 xs [roster, side, person, place, index, lesson] = (filS xs (C_lessons_of_1 person place)).bind fun r => some (r, [roster, side, person, place, index, lesson]) :=
  lc_fil (vs := [4, 5]) (gf := (gTp 2 (gsCons (gNm 4) (gsCons (gNm 5) gsNil)))) (tf := T_lessons_of_1) (ef := E_lessons_of_1) (C_lessons_of_1 person place) (fun d => by simp -implicitDefEqProofs [T_lessons_of_1, E_lessons_of_1, C_lessons_of_1, ite_bind', ifB_bind, thenS_bind, Option.bind_assoc]) xs
def f_lessons_of (roster side person : PyData) : Option PyData :=
(gEq side (.str "teacher")).bind fun v1 =>
(asB v1).bind fun v2 =>
(if v2 = true then (some (.int 0)) else (some (.int 1))).bind fun v3 =>
(gIx roster (.int 2)).bind fun v4 =>
(gEn v4).bind fun v5 =>
(filS v5 (C_lessons_of_1 person v3)).bind fun v10 =>
some (.list v10)
theorem f_lessons_of_eq (roster side person : PyData) : F_lessons_of [roster, side, person] = (f_lessons_of roster side person).bind fun r => some (r, [roster, side, person]) := by
  simp -implicitDefEqProofs [F_lessons_of, S_lessons_of, f_lessons_of, C_lessons_of_1_eq, ite_bind', ifB_bind, thenS_bind, Option.bind_assoc]
def C_free_hours_1 (schedule : PyData) (d : PyData) : Option (PyData) :=
(gIx schedule d).bind fun v3 =>
some v3
theorem C_free_hours_1_eq (roster schedule hours side person busy lesson hour : PyData) (xs : List PyData) : lcL [6] (gNm 6) bYes E_free_hours_1 xs [roster, schedule, hours, side, person, busy, lesson, hour] = (mapS xs (C_free_hours_1 schedule)).bind fun r => some (r, [roster, schedule, hours, side, person, busy, lesson, hour]) :=
  lc_map (vs := [6]) (gf := (gNm 6)) (ef := E_free_hours_1) (C_free_hours_1 schedule) (fun d => by simp -implicitDefEqProofs [E_free_hours_1, C_free_hours_1, ite_bind', ifB_bind, thenS_bind, Option.bind_assoc]) xs
def C_free_hours_2 (busy : PyData) (d : PyData) : Option (Option PyData) :=
(gNotIn d busy).bind fun v6 =>
(asB v6).bind fun v7 =>
if v7 = true then (some (some d)) else (some none)
theorem C_free_hours_2_eq (roster schedule hours side person busy lesson hour : PyData) (xs : List PyData) : lcL [7] (gNm 7) T_free_hours_1 E_free_hours_2 xs [roster, schedule, hours, side, person, busy, lesson, hour] = (filS xs (C_free_hours_2 busy)).bind fun r => some (r, [roster, schedule, hours, side, person, busy, lesson, hour]) :=
  lc_fil (vs := [7]) (gf := (gNm 7)) (tf := T_free_hours_1) (ef := E_free_hours_2) (C_free_hours_2 busy) (fun d => by simp -implicitDefEqProofs [T_free_hours_1, E_free_hours_2, C_free_hours_2, ite_bind', ifB_bind, thenS_bind, Option.bind_assoc]) xs
def f_free_hours (roster schedule hours side person : PyData) : Option PyData :=
(f_lessons_of roster side person).bind fun v1 =>
(seqD v1).bind fun v2 =>
(mapS v2 (C_free_hours_1 schedule)).bind fun v4 =>
(rng1 hours).bind fun v5 =>
(filS v5 (C_free_hours_2 (.list v4))).bind fun v8 =>
some (.list v8)
theorem f_free_hours_eq (roster schedule hours side person : PyData) : F_free_hours [roster, schedule, hours, side, person] = (f_free_hours roster schedule hours side person).bind fun r => some (r, [roster, schedule, hours, side, person]) := by
  simp -implicitDefEqProofs [F_free_hours, S_free_hours, f_free_hours, C_free_hours_1_eq, C_free_hours_2_eq, f_lessons_of_eq, ite_bind', ifB_bind, thenS_bind, Option.bind_assoc]
def f_are_rivals (roster one other : PyData) : Option PyData :=
(gIx roster (.int 2)).bind fun v1 =>
(gIx v1 one).bind fun v2 =>
(gIx roster (.int 2)).bind fun v3 =>
(gIx v3 other).bind fun v4 =>
(gNe one other).bind fun v5 =>
(ifB v5 (((gIx v2 (.int 0)).bind fun v6 =>
(gIx v4 (.int 0)).bind fun v7 =>
(gEq v6 v7).bind fun v8 =>
(ifB v8 ((some (.bool true))) (((gIx v2 (.int 1)).bind fun v9 =>
(gIx v4 (.int 1)).bind fun v10 =>
(gEq v9 v10).bind fun v11 =>
some v11))).bind fun v12 =>
some v12)) ((some (.bool false)))).bind fun v13 =>
some v13
theorem f_are_rivals_eq (roster one other : PyData) : F_are_rivals [roster, one, other] = (f_are_rivals roster one other).bind fun r => some (r, [roster, one, other]) := by
  simp -implicitDefEqProofs [F_are_rivals, S_are_rivals, f_are_rivals, ite_bind', ifB_bind, thenS_bind, Option.bind_assoc]
def C_rivals_1 (roster lesson : PyData) (d : PyData) : Option (Option PyData) :=
(f_are_rivals roster lesson d).bind fun v4 =>
(gTruth v4).bind fun v5 =>
if v5 = true then (some (some d)) else (some none)
theorem C_rivals_1_eq (roster lesson other : PyData) (xs : List PyData) : lcL [2] (gNm 2) T_rivals_1 E_rivals_1 xs [roster, lesson, other] = (filS xs (C_rivals_1 roster lesson)).bind fun r => some (r, [roster, lesson, other]) :=
  lc_fil (vs := [2]) (gf := (gNm 2)) (tf := T_rivals_1) (ef := E_rivals_1) (C_rivals_1 roster lesson) (fun d => by simp -implicitDefEqProofs [T_rivals_1, E_rivals_1, C_rivals_1, f_are_rivals_eq, ite_bind', ifB_bind, thenS_bind, Option.bind_assoc]) xs
def f_rivals (roster lesson : PyData) : Option PyData :=
(gIx roster (.int 2)).bind fun v1 =>
(gLen v1).bind fun v2 =>
(rng1 v2).bind fun v3 =>
(filS v3 (C_rivals_1 roster lesson)).bind fun v6 =>
(gTuple (.list v6)).bind fun v7 =>
some v7
theorem f_rivals_eq (roster lesson : PyData) : F_rivals [roster, lesson] = (f_rivals roster lesson).bind fun r => some (r, [roster, lesson]) := by
  simp -implicitDefEqProofs [F_rivals, S_rivals, f_rivals, C_rivals_1_eq, f_are_rivals_eq, ite_bind', ifB_bind, thenS_bind, Option.bind_assoc]
def L_chain_of_2 (schedule hours : PyData) (d : PyData) (s : PyData) : Option PyData :=
(gIx schedule d).bind fun v5 =>
(gIn v5 hours).bind fun v6 =>
(asB v6).bind fun v7 =>
(if v7 = true then ((gNotIn d s).bind fun v8 =>
(asB v8).bind fun v9 =>
some v9) else (some false)).bind fun v10 =>
if v10 = true then ((gApp s d).bind fun found11 =>
some found11) else (some s)
theorem L_chain_of_2_eq (roster schedule lesson hour hours found at_ : PyData) (xs : List PyData) : forL (gNm 7) B_chain_of_1 xs [roster, schedule, lesson, hour, hours, found, at_, .none] = (foldS xs (L_chain_of_2 schedule hours) found).bind fun r => some (.nx, [roster, schedule, lesson, hour, hours, r, at_, .none]) :=
  for_fold (gf := (gNm 7)) (sf := B_chain_of_1) (fun s : PyData => [roster, schedule, lesson, hour, hours, s, at_, .none]) (L_chain_of_2 schedule hours) (fun d s => by simp (maxSteps := 2000000) -implicitDefEqProofs [B_chain_of_1, L_chain_of_2, ite_bind', ifB_bind, thenS_bind, Option.bind_assoc]) xs found
def WL_chain_of_1 (s : PyData × PyData) : Option Bool :=
(gLen s.1).bind fun v14 =>
(gLt s.2 v14).bind fun v15 =>
(asB v15).bind fun v16 =>
some v16
def L_chain_of_1 (roster schedule hours : PyData) (s : PyData × PyData) : Option (PyData × PyData) :=
(itemD s.1 s.2).bind fun v2 =>
(f_rivals roster v2).bind fun v3 =>
(seqD v3).bind fun v4 =>
(foldS v4 (L_chain_of_2 schedule hours) s.1).bind fun v12 =>
(gAddI s.2 (.int 1)).bind fun v13 =>
some (v12, v13)
theorem L_chain_of_1_eq (roster schedule lesson hour hours found at_ : PyData) (n : Nat) : whL W_chain_of_1 B_chain_of_2 n [roster, schedule, lesson, hour, hours, found, at_, .none] = (whS n (WL_chain_of_1) (L_chain_of_1 roster schedule hours) (found, at_)).bind fun r => some (.nx, [roster, schedule, lesson, hour, hours, r.1, r.2, .none]) :=
  wh_fold (cf := W_chain_of_1) (sf := B_chain_of_2) (fun s : PyData × PyData => [roster, schedule, lesson, hour, hours, s.1, s.2, .none]) (WL_chain_of_1) (L_chain_of_1 roster schedule hours) (fun s => by simp -implicitDefEqProofs [W_chain_of_1, WL_chain_of_1, L_chain_of_2_eq, f_rivals_eq, ite_bind', ifB_bind, thenS_bind, Option.bind_assoc]) (fun s => by simp -implicitDefEqProofs [B_chain_of_2, L_chain_of_1, L_chain_of_2_eq, f_rivals_eq, ite_bind', ifB_bind, thenS_bind, Option.bind_assoc]) n (found, at_)
def f_chain_of (roster schedule lesson hour : PyData) : Option PyData :=
(gIx schedule lesson).bind fun v1 =>
(whS fuel (WL_chain_of_1) (L_chain_of_1 roster schedule (.tuple [v1, hour])) ((.list [lesson]), (.int 0))).bind fun v17 =>
(gSorted v17.1).bind fun v18 =>
(gTuple v18).bind fun v19 =>
some v19
theorem f_chain_of_eq (roster schedule lesson hour : PyData) : F_chain_of [roster, schedule, lesson, hour] = (f_chain_of roster schedule lesson hour).bind fun r => some (r, [roster, schedule, lesson, hour]) := by
  simp -implicitDefEqProofs [F_chain_of, S_chain_of, f_chain_of, L_chain_of_1_eq, f_rivals_eq, ite_bind', ifB_bind, thenS_bind, Option.bind_assoc]
def C_exchange_1 (swapped chain : PyData) (d : PyData) : Option (PyData) :=
(un2 d).bind fun v6 =>
(gIn v6.1 chain).bind fun v7 =>
(asB v7).bind fun v8 =>
(if v8 = true then ((gDGet swapped v6.2).bind fun v9 =>
some v9) else (some v6.2)).bind fun v10 =>
some v10
theorem C_exchange_1_eq (roster schedule lesson hour swapped chain index value : PyData) (xs : List PyData) : lcL [6, 7] (gTp 2 (gsCons (gNm 6) (gsCons (gNm 7) gsNil))) bYes E_exchange_1 xs [roster, schedule, lesson, hour, swapped, chain, index, value] = (mapS xs (C_exchange_1 swapped chain)).bind fun r => some (r, [roster, schedule, lesson, hour, swapped, chain, index, value]) :=
  lc_map (vs := [6, 7]) (gf := (gTp 2 (gsCons (gNm 6) (gsCons (gNm 7) gsNil)))) (ef := E_exchange_1) (C_exchange_1 swapped chain) (fun d => by simp -implicitDefEqProofs [E_exchange_1, C_exchange_1, ite_bind', ifB_bind, thenS_bind, Option.bind_assoc]) xs
def f_exchange (roster schedule lesson hour : PyData) : Option PyData :=
(gIx schedule lesson).bind fun v1 =>
(gIx schedule lesson).bind fun v2 =>
(gDisp2 v1 hour hour v2).bind fun v3 =>
(f_chain_of roster schedule lesson hour).bind fun v4 =>
(gEn schedule).bind fun v5 =>
(mapS v5 (C_exchange_1 v3 v4)).bind fun v11 =>
(gTuple (.list v11)).bind fun v12 =>
some v12
theorem f_exchange_eq (roster schedule lesson hour : PyData) : F_exchange [roster, schedule, lesson, hour] = (f_exchange roster schedule lesson hour).bind fun r => some (r, [roster, schedule, lesson, hour]) := by
  simp -implicitDefEqProofs [F_exchange, S_exchange, f_exchange, C_exchange_1_eq, f_chain_of_eq, ite_bind', ifB_bind, thenS_bind, Option.bind_assoc]
def C_insert_lesson_1 (by_group : PyData) (d : PyData) : Option (Option PyData) :=
(gIn d by_group).bind fun v12 =>
(asB v12).bind fun v13 =>
if v13 = true then (some (some d)) else (some none)
theorem C_insert_lesson_1_eq (roster schedule hours teacher group by_teacher by_group common hour taken lesson : PyData) (xs : List PyData) : lcL [8] (gNm 8) T_insert_lesson_1 E_insert_lesson_1 xs [roster, schedule, hours, teacher, group, by_teacher, by_group, common, hour, taken, lesson] = (filS xs (C_insert_lesson_1 by_group)).bind fun r => some (r, [roster, schedule, hours, teacher, group, by_teacher, by_group, common, hour, taken, lesson]) :=
  lc_fil (vs := [8]) (gf := (gNm 8)) (tf := T_insert_lesson_1) (ef := E_insert_lesson_1) (C_insert_lesson_1 by_group) (fun d => by simp -implicitDefEqProofs [T_insert_lesson_1, E_insert_lesson_1, C_insert_lesson_1, ite_bind', ifB_bind, thenS_bind, Option.bind_assoc]) xs
def C_insert_lesson_2 (schedule hour : PyData) (d : PyData) : Option (Option PyData) :=
(gIx schedule d).bind fun v22 =>
(gEq v22 hour).bind fun v23 =>
(asB v23).bind fun v24 =>
if v24 = true then (some (some d)) else (some none)
theorem C_insert_lesson_2_eq (roster schedule hours teacher group by_teacher by_group common hour taken lesson : PyData) (xs : List PyData) : lcL [10] (gNm 10) T_insert_lesson_2 E_insert_lesson_2 xs [roster, schedule, hours, teacher, group, by_teacher, by_group, common, hour, taken, lesson] = (filS xs (C_insert_lesson_2 schedule hour)).bind fun r => some (r, [roster, schedule, hours, teacher, group, by_teacher, by_group, common, hour, taken, lesson]) :=
  lc_fil (vs := [10]) (gf := (gNm 10)) (tf := T_insert_lesson_2) (ef := E_insert_lesson_2) (C_insert_lesson_2 schedule hour) (fun d => by simp -implicitDefEqProofs [T_insert_lesson_2, E_insert_lesson_2, C_insert_lesson_2, ite_bind', ifB_bind, thenS_bind, Option.bind_assoc]) xs
def f_insert_lesson (roster schedule hours teacher group : PyData) : Option PyData :=
(gIx roster (.int 2)).bind fun v1 =>
(gLen v1).bind fun v2 =>
(gGe v2 (.int 16)).bind fun v3 =>
(asB v3).bind fun v4 =>
if v4 = true then (none) else ((f_free_hours roster schedule hours (.str "teacher") teacher).bind fun v5 =>
(gEq v5 (.list [])).bind fun v6 =>
(asB v6).bind fun v7 =>
if v7 = true then (none) else ((f_free_hours roster schedule hours (.str "group") group).bind fun v8 =>
(gEq v8 (.list [])).bind fun v9 =>
(asB v9).bind fun v10 =>
if v10 = true then (none) else ((seqD v5).bind fun v11 =>
(filS v11 (C_insert_lesson_1 v8)).bind fun v14 =>
(gNe (.list v14) (.list [])).bind fun v15 =>
(asB v15).bind fun v16 =>
if v16 = true then ((gIx (.list v14) (.int 0)).bind fun v17 =>
(gAdd schedule (.tuple [v17])).bind fun v18 =>
some v18) else ((gIx v5 (.int 0)).bind fun v19 =>
(f_lessons_of roster (.str "group") group).bind fun v20 =>
(seqD v20).bind fun v21 =>
(filS v21 (C_insert_lesson_2 schedule v19)).bind fun v25 =>
(gIx (.list v25) (.int 0)).bind fun v26 =>
(gIx v8 (.int 0)).bind fun v27 =>
(f_exchange roster schedule v26 v27).bind fun v28 =>
(gAdd v28 (.tuple [v19])).bind fun v29 =>
some v29))))
theorem f_insert_lesson_eq (roster schedule hours teacher group : PyData) : F_insert_lesson [roster, schedule, hours, teacher, group] = (f_insert_lesson roster schedule hours teacher group).bind fun r => some (r, [roster, schedule, hours, teacher, group]) := by
  simp -implicitDefEqProofs [F_insert_lesson, S_insert_lesson, f_insert_lesson, C_insert_lesson_1_eq, C_insert_lesson_2_eq, f_free_hours_eq, f_lessons_of_eq, f_exchange_eq, ite_bind', ifB_bind, thenS_bind, Option.bind_assoc]
def f__law_whole (value : PyData) : Option PyData :=
((gIsa PyData.isInt) value).bind fun v1 =>
(ifB v1 ((((gIsa PyData.isBool) value).bind fun v2 =>
(gTruth v2).bind fun v3 =>
some (.bool (!v3)))) ((some (.bool false)))).bind fun v4 =>
some v4
theorem f__law_whole_eq (value : PyData) : F__law_whole [value] = (f__law_whole value).bind fun r => some (r, [value]) := by
  simp -implicitDefEqProofs [F__law_whole, S__law_whole, f__law_whole, ite_bind', ifB_bind, thenS_bind, Option.bind_assoc]
def f__law_are_rivals (roster_here one other : PyData) : Option PyData :=
(gIx roster_here (.int 2)).bind fun v1 =>
(gIx v1 one).bind fun v2 =>
(gIx roster_here (.int 2)).bind fun v3 =>
(gIx v3 other).bind fun v4 =>
(gNe one other).bind fun v5 =>
(ifB v5 (((gIx v2 (.int 0)).bind fun v6 =>
(gIx v4 (.int 0)).bind fun v7 =>
(gEq v6 v7).bind fun v8 =>
(ifB v8 ((some (.bool true))) (((gIx v2 (.int 1)).bind fun v9 =>
(gIx v4 (.int 1)).bind fun v10 =>
(gEq v9 v10).bind fun v11 =>
some v11))).bind fun v12 =>
some v12)) ((some (.bool false)))).bind fun v13 =>
some v13
theorem f__law_are_rivals_eq (roster_here one other : PyData) : F__law_are_rivals [roster_here, one, other] = (f__law_are_rivals roster_here one other).bind fun r => some (r, [roster_here, one, other]) := by
  simp -implicitDefEqProofs [F__law_are_rivals, S__law_are_rivals, f__law_are_rivals, ite_bind', ifB_bind, thenS_bind, Option.bind_assoc]
def C__law_is_schedule_1 (d : PyData) : Option (Option PyData) :=
(f__law_whole d).bind fun v10 =>
(gTruth v10).bind fun v11 =>
(if (!v11) = true then (some true) else ((gLe (.int 0) d).bind fun v12 =>
(ifB v12 (((gPow (.int 10) (.int 6)).bind fun v13 =>
(gLe d v13).bind fun v14 =>
some v14)) ((some (.bool false)))).bind fun v15 =>
(asB v15).bind fun v16 =>
some (!v16))).bind fun v17 =>
if v17 = true then (some (some d)) else (some none)
theorem C__law_is_schedule_1_eq (roster_here value one hour k : PyData) (xs : List PyData) : lcL [3] (gNm 3) T__law_is_schedule_1 E__law_is_schedule_1 xs [roster_here, value, one, hour, k] = (filS xs (C__law_is_schedule_1)).bind fun r => some (r, [roster_here, value, one, hour, k]) :=
  lc_fil (vs := [3]) (gf := (gNm 3)) (tf := T__law_is_schedule_1) (ef := E__law_is_schedule_1) (C__law_is_schedule_1) (fun d => by simp -implicitDefEqProofs [T__law_is_schedule_1, E__law_is_schedule_1, C__law_is_schedule_1, f__law_whole_eq, ite_bind', ifB_bind, thenS_bind, Option.bind_assoc]) xs
def C__law_is_schedule_2 (roster_here value one : PyData) (d : PyData) : Option (Option PyData) :=
(gIx value d).bind fun v24 =>
(gIx value one).bind fun v25 =>
(gEq v24 v25).bind fun v26 =>
(asB v26).bind fun v27 =>
(if v27 = true then ((f__law_are_rivals roster_here d one).bind fun v28 =>
(gTruth v28).bind fun v29 =>
some v29) else (some false)).bind fun v30 =>
if v30 = true then (some (some d)) else (some none)
theorem C__law_is_schedule_2_eq (roster_here value one hour k : PyData) (xs : List PyData) : lcL [4] (gNm 4) T__law_is_schedule_2 E__law_is_schedule_2 xs [roster_here, value, one, hour, k] = (filS xs (C__law_is_schedule_2 roster_here value one)).bind fun r => some (r, [roster_here, value, one, hour, k]) :=
  lc_fil (vs := [4]) (gf := (gNm 4)) (tf := T__law_is_schedule_2) (ef := E__law_is_schedule_2) (C__law_is_schedule_2 roster_here value one) (fun d => by simp -implicitDefEqProofs [T__law_is_schedule_2, E__law_is_schedule_2, C__law_is_schedule_2, f__law_are_rivals_eq, ite_bind', ifB_bind, thenS_bind, Option.bind_assoc]) xs
def L__law_is_schedule_1 (roster_here value : PyData) (d : PyData) (s : Unit) : Option (Out × Unit) :=
(rng1 d).bind fun v23 =>
(filS v23 (C__law_is_schedule_2 roster_here value d)).bind fun v31 =>
(gNe (.list v31) (.list [])).bind fun v32 =>
(asB v32).bind fun v33 =>
if v33 = true then (some (.rt (.bool false), ())) else (some (.nx, ()))
theorem L__law_is_schedule_1_eq (roster_here value hour k : PyData) (xs : List PyData) : forL (gNm 2) B__law_is_schedule_1 xs [roster_here, value, .none, hour, k] = (forS xs (L__law_is_schedule_1 roster_here value) ()).bind fun r => thenS r (fun s' => some (.nx, [roster_here, value, .none, hour, k])) (fun d s' => some (.rt d, [.none, .none, .none, .none, .none])) :=
  for_ret (gf := (gNm 2)) (sf := B__law_is_schedule_1) (jr := [0, 1, 2, 3, 4]) (fun s : Unit => [roster_here, value, .none, hour, k]) (L__law_is_schedule_1 roster_here value) (fun d s => by simp (maxSteps := 2000000) -implicitDefEqProofs [B__law_is_schedule_1, L__law_is_schedule_1, C__law_is_schedule_2_eq, f__law_are_rivals_eq, ite_bind', ifB_bind, thenS_bind, Option.bind_assoc]) xs ()
def f__law_is_schedule (roster_here value : PyData) : Option PyData :=
((gIsa PyData.isTuple) value).bind fun v1 =>
(gTruth v1).bind fun v2 =>
(if (!v2) = true then (some true) else ((gLen value).bind fun v3 =>
(gIx roster_here (.int 2)).bind fun v4 =>
(gLen v4).bind fun v5 =>
(gNe v3 v5).bind fun v6 =>
(asB v6).bind fun v7 =>
some v7)).bind fun v8 =>
if v8 = true then (some (.bool false)) else ((seqD value).bind fun v9 =>
(filS v9 (C__law_is_schedule_1)).bind fun v18 =>
(gNe (.list v18) (.list [])).bind fun v19 =>
(asB v19).bind fun v20 =>
if v20 = true then (some (.bool false)) else ((gLen value).bind fun v21 =>
(rng1 v21).bind fun v22 =>
(forS v22 (L__law_is_schedule_1 roster_here value) ()).bind fun v34 =>
thenS v34 (fun s35 =>
some (.bool true)) (fun d37 s36 => some d37)))
theorem f__law_is_schedule_eq (roster_here value : PyData) : F__law_is_schedule [roster_here, value] = (f__law_is_schedule roster_here value).bind fun r => some (r, [roster_here, value]) := by
  simp -implicitDefEqProofs [F__law_is_schedule, S__law_is_schedule, f__law_is_schedule, C__law_is_schedule_1_eq, L__law_is_schedule_1_eq, f__law_whole_eq, f__law_are_rivals_eq, ite_bind', ifB_bind, thenS_bind, Option.bind_assoc]
def C__law_filled_1 (hours : PyData) (d : PyData) : Option (Option PyData) :=
(gGe d hours).bind fun v14 =>
(asB v14).bind fun v15 =>
if v15 = true then (some (some d)) else (some none)
theorem C__law_filled_1_eq (roster_here order hours teachers groups lessons schedule some_ lesson after moves hour one other : PyData) (xs : List PyData) : lcL [11] (gNm 11) T__law_filled_1 E__law_filled_1 xs [roster_here, order, hours, teachers, groups, lessons, schedule, some_, lesson, after, moves, hour, one, other] = (filS xs (C__law_filled_1 hours)).bind fun r => some (r, [roster_here, order, hours, teachers, groups, lessons, schedule, some_, lesson, after, moves, hour, one, other]) :=
  lc_fil (vs := [11]) (gf := (gNm 11)) (tf := T__law_filled_1) (ef := E__law_filled_1) (C__law_filled_1 hours) (fun d => by simp -implicitDefEqProofs [T__law_filled_1, E__law_filled_1, C__law_filled_1, ite_bind', ifB_bind, thenS_bind, Option.bind_assoc]) xs
def C__law_filled_2 (d : PyData) : Option (Option PyData) :=
(un2 d).bind fun v21 =>
(gNe v21.1 v21.2).bind fun v22 =>
(asB v22).bind fun v23 =>
if v23 = true then ((gSorted (.list [v21.1, v21.2])).bind fun v24 =>
(gTuple v24).bind fun v25 =>
some (some v25)) else (some none)
theorem C__law_filled_2_eq (roster_here order hours teachers groups lessons schedule some_ lesson after moves hour one other : PyData) (xs : List PyData) : lcL [12, 13] (gTp 2 (gsCons (gNm 12) (gsCons (gNm 13) gsNil))) T__law_filled_2 E__law_filled_2 xs [roster_here, order, hours, teachers, groups, lessons, schedule, some_, lesson, after, moves, hour, one, other] = (filS xs (C__law_filled_2)).bind fun r => some (r, [roster_here, order, hours, teachers, groups, lessons, schedule, some_, lesson, after, moves, hour, one, other]) :=
  lc_fil (vs := [12, 13]) (gf := (gTp 2 (gsCons (gNm 12) (gsCons (gNm 13) gsNil)))) (tf := T__law_filled_2) (ef := E__law_filled_2) (C__law_filled_2) (fun d => by simp -implicitDefEqProofs [T__law_filled_2, E__law_filled_2, C__law_filled_2, ite_bind', ifB_bind, thenS_bind, Option.bind_assoc]) xs
def L__law_filled_1 (hours teachers groups lessons : PyData) (d : PyData) (s : PyData × PyData) : Option (Out × PyData × PyData) :=
(gIx lessons d).bind fun v4 =>
(gIx v4 (.int 0)).bind fun v5 =>
(gIx lessons d).bind fun v6 =>
(gIx v6 (.int 1)).bind fun v7 =>
(f_insert_lesson (.tuple [teachers, groups, s.2]) s.1 hours v5 v7).bind fun v8 =>
(gIx lessons d).bind fun v9 =>
(gAdd s.2 (.tuple [v9])).bind fun v10 =>
(f__law_is_schedule (.tuple [teachers, groups, v10]) v8).bind fun v11 =>
(gTruth v11).bind fun v12 =>
(if (!v12) = true then (some true) else ((seqD v8).bind fun v13 =>
(filS v13 (C__law_filled_1 hours)).bind fun v16 =>
(gNe (.list v16) (.list [])).bind fun v17 =>
(asB v17).bind fun v18 =>
some v18)).bind fun v19 =>
if v19 = true then (some (.rt (.bool false), (s.1, v10))) else ((zipS s.1 v8).bind fun v20 =>
(filS v20 (C__law_filled_2)).bind fun v26 =>
(gSortSetP (.list v26)).bind fun v27 =>
(gLen v27).bind fun v28 =>
(gGt v28 (.int 1)).bind fun v29 =>
(asB v29).bind fun v30 =>
if v30 = true then (some (.rt (.bool false), (s.1, v10))) else (some (.nx, (v8, v10))))
theorem L__law_filled_1_eq (roster_here order hours teachers groups lessons schedule some_ hour one other : PyData) (xs : List PyData) : forL (gNm 8) B__law_filled_1 xs [roster_here, order, hours, teachers, groups, lessons, schedule, some_, .none, .none, .none, hour, one, other] = (forS xs (L__law_filled_1 hours teachers groups lessons) (schedule, some_)).bind fun r => thenS r (fun s' => some (.nx, [roster_here, order, hours, teachers, groups, lessons, s'.1, s'.2, .none, .none, .none, hour, one, other])) (fun d s' => some (.rt d, [.none, .none, .none, .none, .none, .none, .none, .none, .none, .none, .none, .none, .none, .none])) :=
  for_ret (gf := (gNm 8)) (sf := B__law_filled_1) (jr := [0, 1, 2, 3, 4, 5, 6, 7, 8, 9, 10, 11, 12, 13]) (fun s : PyData × PyData => [roster_here, order, hours, teachers, groups, lessons, s.1, s.2, .none, .none, .none, hour, one, other]) (L__law_filled_1 hours teachers groups lessons) (fun d s => by simp (maxSteps := 2000000) -implicitDefEqProofs [B__law_filled_1, L__law_filled_1, C__law_filled_1_eq, C__law_filled_2_eq, f_insert_lesson_eq, f__law_is_schedule_eq, ite_bind', ifB_bind, thenS_bind, Option.bind_assoc]) xs (schedule, some_)
def f__law_filled (roster_here order hours : PyData) : Option PyData :=
(un3 roster_here).bind fun v1 =>
(un2 (.tuple [(.tuple []), (.tuple [])])).bind fun v2 =>
(seqD order).bind fun v3 =>
(forS v3 (L__law_filled_1 hours v1.1 v1.2.1 v1.2.2) (v2.1, v2.2)).bind fun v31 =>
thenS v31 (fun s32 =>
some (.bool true)) (fun d34 s33 => some d34)
theorem f__law_filled_eq (roster_here order hours : PyData) : F__law_filled [roster_here, order, hours] = (f__law_filled roster_here order hours).bind fun r => some (r, [roster_here, order, hours]) := by
  simp -implicitDefEqProofs [F__law_filled, S__law_filled, f__law_filled, L__law_filled_1_eq, f_insert_lesson_eq, f__law_is_schedule_eq, ite_bind', ifB_bind, thenS_bind, Option.bind_assoc]
def C_insert_lesson_x_1 (by_group : PyData) (d : PyData) : Option (Option PyData) :=
(gIn d by_group).bind fun v15 =>
(asB v15).bind fun v16 =>
if v16 = true then (some (some d)) else (some none)
theorem C_insert_lesson_x_1_eq (roster schedule hours teacher group by_teacher by_group common hour taken lesson : PyData) (xs : List PyData) : lcL [8] (gNm 8) T_insert_lesson_x_1 E_insert_lesson_x_1 xs [roster, schedule, hours, teacher, group, by_teacher, by_group, common, hour, taken, lesson] = (filS xs (C_insert_lesson_x_1 by_group)).bind fun r => some (r, [roster, schedule, hours, teacher, group, by_teacher, by_group, common, hour, taken, lesson]) :=
  lc_fil (vs := [8]) (gf := (gNm 8)) (tf := T_insert_lesson_x_1) (ef := E_insert_lesson_x_1) (C_insert_lesson_x_1 by_group) (fun d => by simp -implicitDefEqProofs [T_insert_lesson_x_1, E_insert_lesson_x_1, C_insert_lesson_x_1, ite_bind', ifB_bind, thenS_bind, Option.bind_assoc]) xs
def C_insert_lesson_x_2 (schedule hour : PyData) (d : PyData) : Option (Option PyData) :=
(gIx schedule d).bind fun v26 =>
(gEq v26 hour).bind fun v27 =>
(asB v27).bind fun v28 =>
if v28 = true then (some (some d)) else (some none)
theorem C_insert_lesson_x_2_eq (roster schedule hours teacher group by_teacher by_group common hour taken lesson : PyData) (xs : List PyData) : lcL [10] (gNm 10) T_insert_lesson_x_2 E_insert_lesson_x_2 xs [roster, schedule, hours, teacher, group, by_teacher, by_group, common, hour, taken, lesson] = (filS xs (C_insert_lesson_x_2 schedule hour)).bind fun r => some (r, [roster, schedule, hours, teacher, group, by_teacher, by_group, common, hour, taken, lesson]) :=
  lc_fil (vs := [10]) (gf := (gNm 10)) (tf := T_insert_lesson_x_2) (ef := E_insert_lesson_x_2) (C_insert_lesson_x_2 schedule hour) (fun d => by simp -implicitDefEqProofs [T_insert_lesson_x_2, E_insert_lesson_x_2, C_insert_lesson_x_2, ite_bind', ifB_bind, thenS_bind, Option.bind_assoc]) xs
def f_insert_lesson_x (roster schedule hours teacher group : PyData) : Option PyData :=
(gIx roster (.int 2)).bind fun v1 =>
(gLen v1).bind fun v2 =>
(gGe v2 (.int 16)).bind fun v3 =>
(asB v3).bind fun v4 =>
if v4 = true then (((gRz "TooManyLessons") (.tuple [(.int 16)])).bind fun v5 =>
some v5) else ((f_free_hours roster schedule hours (.str "teacher") teacher).bind fun v6 =>
(gEq v6 (.list [])).bind fun v7 =>
(asB v7).bind fun v8 =>
if v8 = true then (((gRz "NoFreeHour") (.tuple [(.str "teacher"), teacher])).bind fun v9 =>
some v9) else ((f_free_hours roster schedule hours (.str "group") group).bind fun v10 =>
(gEq v10 (.list [])).bind fun v11 =>
(asB v11).bind fun v12 =>
if v12 = true then (((gRz "NoFreeHour") (.tuple [(.str "group"), group])).bind fun v13 =>
some v13) else ((seqD v6).bind fun v14 =>
(filS v14 (C_insert_lesson_x_1 v10)).bind fun v17 =>
(gNe (.list v17) (.list [])).bind fun v18 =>
(asB v18).bind fun v19 =>
if v19 = true then ((gIx (.list v17) (.int 0)).bind fun v20 =>
(gAdd schedule (.tuple [v20])).bind fun v21 =>
(gOk v21).bind fun v22 =>
some v22) else ((gIx v6 (.int 0)).bind fun v23 =>
(f_lessons_of roster (.str "group") group).bind fun v24 =>
(seqD v24).bind fun v25 =>
(filS v25 (C_insert_lesson_x_2 schedule v23)).bind fun v29 =>
(gIx (.list v29) (.int 0)).bind fun v30 =>
(gIx v10 (.int 0)).bind fun v31 =>
(f_exchange roster schedule v30 v31).bind fun v32 =>
(gAdd v32 (.tuple [v23])).bind fun v33 =>
(gOk v33).bind fun v34 =>
some v34))))
theorem f_insert_lesson_x_eq (roster schedule hours teacher group : PyData) : F_insert_lesson_x [roster, schedule, hours, teacher, group] = (f_insert_lesson_x roster schedule hours teacher group).bind fun r => some (r, [roster, schedule, hours, teacher, group]) := by
  simp -implicitDefEqProofs [F_insert_lesson_x, S_insert_lesson_x, f_insert_lesson_x, C_insert_lesson_x_1_eq, C_insert_lesson_x_2_eq, f_free_hours_eq, f_lessons_of_eq, f_exchange_eq, ite_bind', ifB_bind, thenS_bind, Option.bind_assoc]
def L__law_stuck_1 (hours teachers groups lessons : PyData) (d : PyData) (s : PyData × PyData) : Option (Out × PyData × PyData) :=
(gIx lessons d).bind fun v4 =>
(gIx v4 (.int 0)).bind fun v5 =>
(gIx lessons d).bind fun v6 =>
(gIx v6 (.int 1)).bind fun v7 =>
(f_insert_lesson_x (.tuple [teachers, groups, s.2]) s.1 hours v5 v7).bind fun v8 =>
(gIsOk tb__law_stuck_t1_insert_lesson_x v8).bind fun v9 =>
(asB v9).bind fun v10 =>
if v10 = true then ((gUn v8).bind fun v11 =>
(gIx lessons d).bind fun v12 =>
(gAdd s.2 (.tuple [v12])).bind fun v13 =>
some (.nx, (v11, v13))) else (some (.rt v8, (s.1, s.2)))
theorem L__law_stuck_1_eq (roster_here order hours teachers groups lessons schedule some_ error side row : PyData) (xs : List PyData) : forL (gNm 8) B__law_stuck_1 xs [roster_here, order, hours, teachers, groups, lessons, schedule, some_, .none, error, side, row] = (forS xs (L__law_stuck_1 hours teachers groups lessons) (schedule, some_)).bind fun r => thenS r (fun s' => some (.nx, [roster_here, order, hours, teachers, groups, lessons, s'.1, s'.2, .none, error, side, row])) (fun d s' => some (.rt d, [roster_here, order, hours, teachers, groups, lessons, s'.1, s'.2, .none, .none, .none, .none])) :=
  for_ret (gf := (gNm 8)) (sf := B__law_stuck_1) (jr := [8, 9, 10, 11]) (fun s : PyData × PyData => [roster_here, order, hours, teachers, groups, lessons, s.1, s.2, .none, error, side, row]) (L__law_stuck_1 hours teachers groups lessons) (fun d s => by simp (maxSteps := 2000000) -implicitDefEqProofs [B__law_stuck_1, L__law_stuck_1, f_insert_lesson_x_eq, ite_bind', ifB_bind, thenS_bind, Option.bind_assoc]) xs (schedule, some_)
def C__law_stuck_1 (error side : PyData) (d : PyData) : Option (Option PyData) :=
(gIx d side).bind fun v27 =>
((gFldE tb__law_stuck_t1 "person") error).bind fun v28 =>
(gEq v27 v28).bind fun v29 =>
(asB v29).bind fun v30 =>
if v30 = true then (some (some d)) else (some none)
theorem C__law_stuck_1_eq (roster_here order hours teachers groups lessons schedule some_ lesson error side row : PyData) (xs : List PyData) : lcL [11] (gNm 11) T__law_stuck_1 E__law_stuck_1 xs [roster_here, order, hours, teachers, groups, lessons, schedule, some_, lesson, error, side, row] = (filS xs (C__law_stuck_1 error side)).bind fun r => some (r, [roster_here, order, hours, teachers, groups, lessons, schedule, some_, lesson, error, side, row]) :=
  lc_fil (vs := [11]) (gf := (gNm 11)) (tf := T__law_stuck_1) (ef := E__law_stuck_1) (C__law_stuck_1 error side) (fun d => by simp -implicitDefEqProofs [T__law_stuck_1, E__law_stuck_1, C__law_stuck_1, ite_bind', ifB_bind, thenS_bind, Option.bind_assoc]) xs
def f__law_stuck (roster_here order hours : PyData) : Option PyData :=
(un3 roster_here).bind fun v1 =>
(un2 (.tuple [(.tuple []), (.tuple [])])).bind fun v2 =>
(seqD order).bind fun v3 =>
(forS v3 (L__law_stuck_1 hours v1.1 v1.2.1 v1.2.2) (v2.1, v2.2)).bind fun v14 =>
thenS v14 (fun s15 =>
some (.bool false)) (fun d17 s16 => (gIsOk tb__law_stuck_t1 d17).bind fun v18 =>
(asB v18).bind fun v19 =>
if v19 = true then ((gUn d17).bind fun v20 =>
some v20) else (((gIsE rt__law_stuck_t1_NoFreeHour) d17).bind fun v21 =>
(asB v21).bind fun v22 =>
if v22 = true then (((gFldE tb__law_stuck_t1 "side") d17).bind fun v23 =>
(gEq v23 (.str "group")).bind fun v24 =>
(gInt v24).bind fun v25 =>
(seqD s16.2).bind fun v26 =>
(filS v26 (C__law_stuck_1 d17 v25)).bind fun v31 =>
(gLen (.list v31)).bind fun v32 =>
(gEq v32 hours).bind fun v33 =>
some v33) else (none)))
theorem f__law_stuck_eq (roster_here order hours : PyData) : F__law_stuck [roster_here, order, hours] = (f__law_stuck roster_here order hours).bind fun r => some (r, [roster_here, order, hours]) := by
  simp -implicitDefEqProofs [F__law_stuck, S__law_stuck, f__law_stuck, L__law_stuck_1_eq, C__law_stuck_1_eq, f_insert_lesson_x_eq, ite_bind', ifB_bind, thenS_bind, Option.bind_assoc]
def L_law_2 (roster_here degree_here : PyData) (d : PyData) (s : PyData) : Option (Out × PyData) :=
(gIx roster_here (.int 2)).bind fun v6 =>
(gLen v6).bind fun v7 =>
(rng1 v7).bind fun v8 =>
(f__law_shuffled s (.list v8)).bind fun v9 =>
(gMax2 (.int 1) degree_here).bind fun v10 =>
(f__law_next v9.2 (.int 3)).bind fun v11 =>
(gIx (.list [(.int 0), (.int 0), (.int 1)]) v11.1).bind fun v12 =>
(gAdd v10 v12).bind fun v13 =>
(f__law_filled roster_here v9.1 v13).bind fun v14 =>
(gTruth v14).bind fun v15 =>
if (!v15) = true then (some (.rt (.bool false), v11.2)) else ((gGt degree_here (.int 1)).bind fun v16 =>
(asB v16).bind fun v17 =>
(if v17 = true then ((gSub degree_here (.int 1)).bind fun v18 =>
(f__law_stuck roster_here v9.1 v18).bind fun v19 =>
(gTruth v19).bind fun v20 =>
some (!v20)) else (some false)).bind fun v21 =>
if v21 = true then (some (.rt (.bool false), v11.2)) else (some (.nx, v11.2)))
theorem L_law_2_eq (script deck_here turn roster_here degree_here : PyData) (xs : List PyData) : forL (gNm 5) B_law_1 xs [script, deck_here, turn, roster_here, degree_here, .none, .none] = (forS xs (L_law_2 roster_here degree_here) deck_here).bind fun r => thenS r (fun s' => some (.nx, [script, s', turn, roster_here, degree_here, .none, .none])) (fun d s' => some (.rt d, [.none, .none, .none, .none, .none, .none, .none])) :=
  for_ret (gf := (gNm 5)) (sf := B_law_1) (jr := [0, 1, 2, 3, 4, 5, 6]) (fun s : PyData => [script, s, turn, roster_here, degree_here, .none, .none]) (L_law_2 roster_here degree_here) (fun d s => by simp (maxSteps := 2000000) -implicitDefEqProofs [B_law_1, L_law_2, f__law_shuffled_eq, f__law_filled_eq, f__law_next_eq, f__law_stuck_eq, ite_bind', ifB_bind, thenS_bind, Option.bind_assoc]) xs deck_here
def L_law_1 (d : PyData) (s : PyData) : Option (Out × PyData) :=
(f__law_roster s (.int 16)).bind fun v3 =>
(f__law_degree v3.1).bind fun v4 =>
(rng1 (.int 2)).bind fun v5 =>
(forS v5 (L_law_2 v3.1 v4) v3.2).bind fun v22 =>
thenS v22 (fun s23 =>
some (.nx, s23)) (fun d25 s24 => some (.rt d25, s24))
theorem L_law_1_eq (script deck_here : PyData) (xs : List PyData) : forL (gNm 2) B_law_2 xs [script, deck_here, .none, .none, .none, .none, .none] = (forS xs (L_law_1) deck_here).bind fun r => thenS r (fun s' => some (.nx, [script, s', .none, .none, .none, .none, .none])) (fun d s' => some (.rt d, [.none, .none, .none, .none, .none, .none, .none])) :=
  for_ret (gf := (gNm 2)) (sf := B_law_2) (jr := [0, 1, 2, 3, 4, 5, 6]) (fun s : PyData => [script, s, .none, .none, .none, .none, .none]) (L_law_1) (fun d s => by simp (maxSteps := 2000000) -implicitDefEqProofs [B_law_2, L_law_1, L_law_2_eq, f__law_roster_eq, f__law_degree_eq, f__law_shuffled_eq, f__law_filled_eq, f__law_next_eq, f__law_stuck_eq, ite_bind', ifB_bind, thenS_bind, Option.bind_assoc]) xs deck_here
def f_law (script : PyData) : Option PyData :=
(f__law_deck script).bind fun v1 =>
(rng1 (.int 5)).bind fun v2 =>
(forS v2 (L_law_1) v1).bind fun v26 =>
thenS v26 (fun s27 =>
some (.bool true)) (fun d29 s28 => some d29)
theorem f_law_eq (script : PyData) : F_law [script] = (f_law script).bind fun r => some (r, [script]) := by
  simp -implicitDefEqProofs [F_law, S_law, f_law, L_law_1_eq, f__law_deck_eq, f__law_roster_eq, f__law_degree_eq, f__law_shuffled_eq, f__law_filled_eq, f__law_next_eq, f__law_stuck_eq, ite_bind', ifB_bind, thenS_bind, Option.bind_assoc]
end LK
namespace LK
open PySem L2 PySem.Spec DL
def nums (xs : List Int) : List PyData := xs.map .int
def deckD (as : List Int) (c t z : Int) : PyData := .list [.list (nums as), .int c, .int t, .int z]
def Deck (k : Nat) (d : PyData) : Prop := ∃ (as : List Int) (c t z : Int), d = deckD as c t z ∧ (∀ a ∈ as, 0 ≤ a) ∧ as.length ≤ 63 ∧ 0 ≤ c ∧ 0 ≤ t ∧ t ≤ k ∧ 0 ≤ z ∧ z < 2147483648
theorem Deck.mono {k k' : Nat} {d : PyData} (h : Deck k d) (l : k ≤ k') : Deck k' d := by
  obtain ⟨as, c, t, z, h1, h2, h3, h4, h5, h6, h7⟩ := h
  exact ⟨as, c, t, z, h1, h2, h3, h4, h5, by omega, h7⟩
def absI (i : Int) : Int := if i < 0 then -i else i
@[simp] theorem at3 {α : Type} {a b c d : α} {l : List α} : atI (a :: b :: c :: d :: l) 3 = some d := by
  have : atI (a :: b :: c :: d :: l) ((3 : Nat) : Int) = some d := atI_nat rfl
  exact this
@[simp] theorem ixn3 {n : Nat} : ixN (n + 1 + 1 + 1 + 1) 3 = some 3 := ixN_nat (j := 3) (by omega)
theorem deck_ok (ns : List Int) (h : ns.length ≤ 63) : ∃ d, f__law_deck (.list (ns.map .int)) = some d ∧ Deck 0 d := by
  have h1 : mapS (ns.map .int) C__law_deck_1 = some (ns.map fun i => .int (absI i)) := mapS_of fun i _ => rfl
  have e1 : gSlL (.list (ns.map .int)) none (some ((63 : Nat) : Int)) = some (.list (cutD (ns.map PyData.int) none (some ((63 : Nat) : Int)))) := rfl
  rw [cut_take, List.take_of_length_le (by rw [List.length_map]; exact h)] at e1
  have e1' : gSlL (.list (ns.map .int)) none (some 63) = some (.list (ns.map .int)) := e1
  have e2 : gLenL (.list (ns.map .int)) = some (.int (((ns.map PyData.int).length : Nat) : Int)) := rfl
  have e3 : (ns.map fun i => PyData.int (absI i)) = nums (ns.map absI) := by rw [nums, List.map_map]; rfl
  obtain ⟨q, hq⟩ : ∃ q : Int, q = (((ns.map PyData.int).length : Nat) : Int) := ⟨_, rfl⟩
  have hq1 : 0 ≤ q ∧ q ≤ 63 := by rw [hq, List.length_map]; omega
  rw [← hq] at e2
  have m1 : gMul (.int 37) (.int q) = some (.int (37 * q)) := xMul (.inl (by decide))
  refine ⟨deckD (ns.map absI) 0 0 (11 + 37 * q), ?_, _, _, _, _, rfl, fun a ha => ?_, by rw [List.length_map]; exact h, by decide, by decide, by decide, by omega, by omega⟩
  · simp -implicitDefEqProofs only [f__law_deck, e1', Option.bind_some, xSeqL, h1, e2, m1, xAdd, e3]
    rfl
  · obtain ⟨i, _, rfl⟩ := List.mem_map.mp ha
    unfold absI
    split <;> omega
theorem next_loop : ∀ (as : List Int) (c t z : Int) (n : Nat), as.length < n → (∀ a ∈ as, 0 ≤ a) → 0 ≤ c → 0 ≤ z → z < 2147483648 →
    ∃ (as' : List Int) (c' z' : Int), whS n WL__law_next_1 L__law_next_1 (deckD as c t z) = some (deckD as' c' t z') ∧ (∀ a ∈ as', 0 ≤ a) ∧ as'.length ≤ as.length ∧ 0 ≤ c' ∧ 0 ≤ z' ∧ z' < 2147483648 := by
  intro as
  induction as with
  | nil =>
    intro c t z n hn ha hc hz hz1
    cases n with
    | zero => omega
    | succ n =>
      have hw : WL__law_next_1 (deckD [] c t z) = some false := by
        have p : PyData.plainAll (nums []) = true := rfl
        simp [WL__law_next_1, deckD, nums]
      exact ⟨[], c, z, whS_end hw, ha, Nat.le_refl _, hc, hz, hz1⟩
  | cons a as ih =>
    intro c t z n hn ha hc hz hz1
    cases n with
    | zero => omega
    | succ n =>
      by_cases h0 : c = 0
      · subst h0
        have hpl : PyData.plainAll (nums (a :: as)) = true := plain_map fun _ => rfl
        have hw : WL__law_next_1 (deckD (a :: as) 0 t z) = some true := by
          simp [WL__law_next_1, deckD, hpl]
          simp [nums]
        have a0 := ha a (List.mem_cons_self ..)
        obtain ⟨z', hz', hz0, hz2⟩ : ∃ z', (z * 48271 + a + 7) % 2147483647 = z' ∧ 0 ≤ z' ∧ z' < 2147483648 := by
          refine ⟨_, rfl, Int.emod_nonneg _ (by decide), ?_⟩
          have := Int.emod_lt_of_pos (z * 48271 + a + 7) (show (0 : Int) < 2147483647 by decide)
          omega
        obtain ⟨c', hc', hc0⟩ : ∃ c', c' = a * (if (10 : Int) ^ 18 ≤ a then 1 else 0) ∧ 0 ≤ c' := ⟨_, rfl, by split <;> omega⟩
        have hb : L__law_next_1 (deckD (a :: as) 0 t z) = some (deckD as c' t z') := by
          have i0 : itemD (deckD (a :: as) 0 t z) (.int 0) = some (.list (nums (a :: as))) := by simp [deckD]
          have i1 : gPopAt (.list (nums (a :: as))) (.int 0) = some (.int a, .list (nums as)) := by simp [gPopAt, nums]
          have i2 : setD (deckD (a :: as) 0 t z) (.int 0) (.list (nums as)) = deckD as 0 t z := by simp [setD, deckD]
          have i3 : gIx (deckD as 0 t z) (.int 3) = some (.int z) := by simp [deckD]
          have i4 : ∀ x : PyData, gSet (deckD as 0 t z) (.int 3) x = some (.list [.list (nums as), .int 0, .int t, x]) := fun x => by simp [gSet, deckD]
          have i5 : ∀ x y : PyData, gSet (.list [.list (nums as), .int 0, .int t, x]) (.int 1) y = some (.list [.list (nums as), y, .int t, x]) := fun x y => by simp [gSet]
          have e10 : gPow (.int 10) (.int 18) = some (.int (10 ^ 18)) := xPow (by decide) (by decide) (by decide)
          have m1 : gMul (.int z) (.int 48271) = some (.int (z * 48271)) := xMul (.inr (by decide))
          have m2 : ∀ b : Bool, gInt (.bool b) = some (.int (if b = true then 1 else 0)) := fun b => by cases b <;> rfl
          have m3 : gMul (.int a) (.int (if decide ((10 : Int) ^ 18 ≤ a) = true then 1 else 0)) = some (.int c') := by
            rw [xMul (.inr (by split <;> decide)), hc']
            congr 3
            by_cases h : (10 : Int) ^ 18 ≤ a
            · rw [if_pos (decide_eq_true h), if_pos h]
            · rw [if_neg (by simpa using h), if_neg h]
          have k1 : gMod (.int (z * 48271 + a + 7)) (.int 2147483647) = some (.int ((z * 48271 + a + 7) % 2147483647)) := xMod (by decide)
          simp -implicitDefEqProofs only [L__law_next_1, i0, i1, i2, i3, i4, i5, e10, m1, m2, m3, Option.bind_some, scInt, grd_true, xAdd, k1, xGe]
          rw [hz']
          rfl
        rw [whS_step hw hb]
        have := ih c' t z' n (by simpa using hn) (fun b hb => ha b (List.mem_cons_of_mem _ hb)) hc0 hz0 hz2
        obtain ⟨as', c2, z2, h1, h2, h3, h4⟩ := this
        exact ⟨as', c2, z2, h1, h2, by rw [List.length_cons]; omega, h4⟩
      · have hw : WL__law_next_1 (deckD (a :: as) c t z) = some false := by
          simp [WL__law_next_1, deckD, h0]
        exact ⟨a :: as, c, z, whS_end hw, ha, Nat.le_refl _, hc, hz, hz1⟩
theorem next_ok {k : Nat} {d : PyData} (hd : Deck k d) (hk : k ≤ 1000000000) (m : Int) (hm : 0 < m) (hm2 : m < 1073741824) : ∃ r d', f__law_next d (.int m) = some (.int r, d') ∧ Deck (k + 1) d' ∧ 0 ≤ r ∧ r < m := by
  obtain ⟨as, c, t, z, rfl, ha, hl, hc, ht, htk, hz, hz1⟩ := hd
  obtain ⟨as', c', z', h1, h2, h3, h4, h5, h6⟩ := next_loop as c t z fuel (Nat.lt_of_le_of_lt hl (by decide)) ha hc hz hz1
  have i1 : gIx (deckD as' c' t z') (.int 1) = some (.int c') := by simp [deckD]
  by_cases hp : 0 < c'
  · have i2 : gSet (deckD as' c' t z') (.int 1) (.int (c' / m)) = some (deckD as' (c' / m) t z') := by simp [gSet, deckD]
    refine ⟨c' % m, deckD as' (c' / m) t z', ?_, ⟨as', c' / m, t, z', rfl, h2, by omega, Int.ediv_nonneg h4 (by omega), ht, by omega, h5, h6⟩, Int.emod_nonneg _ (by omega), Int.emod_lt_of_pos _ hm⟩
    simp -implicitDefEqProofs only [f__law_next, h1, i1, Option.bind_some, xGt, decide_eq_true hp, asB_bool, if_true, scInt, grd_true, xMod hm, xFdiv hm hm2, i2]
  · have j2 : gIx (deckD as' c' t z') (.int 2) = some (.int t) := by simp [deckD]
    have j3 : gSet (deckD as' c' t z') (.int 2) (.int (t + 1)) = some (deckD as' c' (t + 1) z') := by simp [gSet, deckD]
    have j4 : gIx (deckD as' c' (t + 1) z') (.int 3) = some (.int z') := by simp [deckD]
    have j5 : gIx (deckD as' c' (t + 1) z') (.int 2) = some (.int (t + 1)) := by simp [deckD]
    obtain ⟨w, hw, w0, w1⟩ : ∃ w, (z' * 69621 + 30011 * (t + 1) + 12345) % 2147483647 = w ∧ 0 ≤ w ∧ w < 2147483647 := ⟨_, rfl, Int.emod_nonneg _ (by decide), Int.emod_lt_of_pos _ (by decide)⟩
    have j6 : gSet (deckD as' c' (t + 1) z') (.int 3) (.int w) = some (deckD as' c' (t + 1) w) := by simp [gSet, deckD]
    have j7 : gIx (deckD as' c' (t + 1) w) (.int 3) = some (.int w) := by simp [deckD]
    have m1 : gMul (.int z') (.int 69621) = some (.int (z' * 69621)) := xMul (.inr (by decide))
    have m2 : gMul (.int 30011) (.int (t + 1)) = some (.int (30011 * (t + 1))) := xMul (.inl (by decide))
    have m3 : gMul (.int w) (.int w) = some (.int (w * w)) := xMul (.inl (by omega))
    have k1 : gMod (.int (z' * 69621 + 30011 * (t + 1) + 12345)) (.int 2147483647) = some (.int w) := by rw [xMod (by decide), hw]
    have k2 : gMod (.int (w * w)) (.int 2147483629) = some (.int (w * w % 2147483629)) := xMod (by decide)
    have k3 : gFdiv (.int (w * w % 2147483629)) (.int 8) = some (.int (w * w % 2147483629 / 8)) := xFdiv (by decide) (by decide)
    have k4 : gMod (.int (w * w % 2147483629 / 8)) (.int m) = some (.int (w * w % 2147483629 / 8 % m)) := xMod hm
    refine ⟨w * w % 2147483629 / 8 % m, deckD as' c' (t + 1) w, ?_, ⟨as', c', t + 1, w, rfl, h2, by omega, h4, by omega, by omega, w0, by omega⟩, Int.emod_nonneg _ (by omega), Int.emod_lt_of_pos _ hm⟩
    simp -implicitDefEqProofs only [f__law_next, h1, i1, Option.bind_some, xGt, decide_eq_false hp, asB_bool, Bool.false_eq_true, if_false, j2, scInt, grd_true, xAdd, j3, j4, m1, j5, m2, k1, j6, K__law_next_1, j7, m3, k2, k3, k4]
end LK
namespace LK
open PySem L2 PySem.Spec DL
theorem perm_out {α : Type} {l : List α} {j : Nat} (h : j < l.length) : (l[j] :: l.eraseIdx j).Perm l := by
  rw [List.eraseIdx_eq_take_drop_succ]
  refine List.perm_middle.symm.trans (List.Perm.of_eq ?_)
  rw [List.getElem_cons_drop, List.take_append_drop]
theorem shuf_loop : ∀ (n : Nat) (xs fs : List PyData) (d : PyData) (k f : Nat), xs.length = n → n < f → xs.length + fs.length ≤ 1000000 → Deck k d → k + n ≤ 100000000 →
    ∃ (ys : List PyData) (d' : PyData), whS f WL__law_shuffled_1 L__law_shuffled_1 (d, .list xs, .list fs) = some (d', .list [], .list (fs ++ ys)) ∧ Deck (k + n) d' ∧ ys.Perm xs := by
  intro n
  induction n with
  | zero =>
    intro xs fs d k f hx hf _ hd _
    obtain rfl := List.length_eq_zero_iff.mp hx
    cases f with
    | zero => omega
    | succ f =>
      refine ⟨[], d, ?_, hd, .nil⟩
      rw [List.append_nil]
      exact whS_end (by simp [WL__law_shuffled_1])
  | succ n ih =>
    intro xs fs d k f hx hf hl hd hk
    cases f with
    | zero => omega
    | succ f =>
      have hne : xs.isEmpty = false := by
        cases xs with
        | nil => simp at hx
        | cons => rfl
      have hw : WL__law_shuffled_1 (d, .list xs, .list fs) = some true := by
        simp -implicitDefEqProofs only [WL__law_shuffled_1, xNeNilL, hne, Option.bind_some, asB_bool, Bool.not_false]
      obtain ⟨r, d1, h1, k1, r0, r1⟩ := next_ok hd (by omega) ((xs.length : Nat) : Int) (by omega) (by omega)
      obtain ⟨j, rfl⟩ := int_nat r0
      have hj : j < xs.length := by omega
      have e1 := xPop (xs := xs) (n := j) hj (by omega)
      have hb : L__law_shuffled_1 (d, .list xs, .list fs) = some (d1, .list (xs.eraseIdx j), .list (fs ++ [xs[j]])) := by
        simp -implicitDefEqProofs only [L__law_shuffled_1, xLenL, Option.bind_some, scInt, grd_true, h1, e1, xApp (xs := fs) (by omega)]
      have he : (xs.eraseIdx j).length = n := by rw [List.length_eraseIdx_of_lt hj]; omega
      obtain ⟨ys, d2, h2, k2, p2⟩ := ih (xs.eraseIdx j) (fs ++ [xs[j]]) d1 (k + 1) f he (by omega) (by rw [List.length_append, he]; simp; omega) k1 (by omega)
      refine ⟨xs[j] :: ys, d2, ?_, k2.mono (by omega), (List.Perm.cons _ p2).trans (perm_out hj)⟩
      rw [whS_step hw hb, h2, List.append_assoc]; rfl
theorem shuf_ok {k : Nat} {d : PyData} (hd : Deck k d) (hk : k ≤ 10000000) (xs : List PyData) (hl : xs.length ≤ 2000) : ∃ (ys : List PyData) (d' : PyData), f__law_shuffled d (.list xs) = some (.list ys, d') ∧ Deck (k + xs.length) d' ∧ ys.Perm xs := by
  obtain ⟨ys, d', h1, k1, p1⟩ := shuf_loop xs.length xs [] d k fuel rfl (Nat.lt_of_le_of_lt hl (by decide)) (by simp; omega) hd (by omega)
  refine ⟨ys, d', ?_, k1, p1⟩
  simp -implicitDefEqProofs only [f__law_shuffled, xListL, Option.bind_some, h1]
  rfl
theorem perm_map {α : Type} {f : α → PyData} {xs ys : List PyData} (h : xs.Perm ys) : ∀ l : List α, xs = l.map f → ∃ l' : List α, ys = l'.map f ∧ l'.Perm l := by
  induction h with
  | nil => exact fun l e => ⟨l, e, List.Perm.refl l⟩
  | cons x _ ih =>
    intro l e
    cases l with
    | nil => cases e
    | cons a l =>
      rw [List.map_cons] at e
      injection e with e1 e2
      obtain ⟨l', h1, h2⟩ := ih l e2
      exact ⟨a :: l', by rw [List.map_cons, e1, h1], h2.cons a⟩
  | swap x y t =>
    intro l e
    cases l with
    | nil => cases e
    | cons a l =>
      cases l with
      | nil => cases e
      | cons b l =>
        rw [List.map_cons, List.map_cons] at e
        injection e with e1 e2
        injection e2 with e2 e3
        exact ⟨b :: a :: l, by rw [List.map_cons, List.map_cons, e1, e2, e3], .swap a b l⟩
  | trans _ _ ih1 ih2 =>
    intro l e
    obtain ⟨l1, h1, h2⟩ := ih1 l e
    obtain ⟨l2, h3, h4⟩ := ih2 l1 h1
    exact ⟨l2, h3, h4.trans h2⟩
end LK
namespace LK
open PySem L2 PySem.Spec DL
def Ok {α : Type} (m : Option α) (Q : α → Prop) : Prop := ∃ a, m = some a ∧ Q a
theorem Ok.post {α β : Type} {m : Option α} {f : α → Option β} {Q : β → Prop} (P : α → Prop) (h : Ok m P) (k : ∀ a, P a → Ok (f a) Q) : Ok (m.bind f) Q := by
  obtain ⟨a, e, p⟩ := h
  rw [e]; exact k a p
theorem Ok.ret {α : Type} {a : α} {Q : α → Prop} (h : Q a) : Ok (some a) Q := ⟨a, rfl, h⟩
theorem Ok.ite {α : Type} {c : Prop} [Decidable c] {x y : Option α} {Q : α → Prop} (h1 : c → Ok x Q) (h2 : ¬ c → Ok y Q) : Ok (if c then x else y) Q := by
  split
  · rename_i h; exact h1 h
  · rename_i h; exact h2 h
theorem Ok.mono {α : Type} {m : Option α} {Q Q' : α → Prop} (h : Ok m Q) (k : ∀ a, Q a → Q' a) : Ok m Q' := by
  obtain ⟨a, e, p⟩ := h
  exact ⟨a, e, k a p⟩
theorem Ok.eq {α : Type} {m : Option α} {a : α} (h : Ok m fun x => x = a) : m = some a := by
  obtain ⟨b, e, rfl⟩ := h
  exact e
end LK
namespace LK
open PySem L2 PySem.Spec DL
structure Ros where
  T : Int
  G : Int
  ls : List (Int × Int)
def les (p : Int × Int) : PyData := .tuple [.int p.1, .int p.2]
def rosD (R : Ros) : PyData := .tuple [.int R.T, .int R.G, .tuple (R.ls.map les)]
def LsOk (T G : Int) (ls : List (Int × Int)) : Prop := ∀ p ∈ ls, 0 ≤ p.1 ∧ p.1 < T ∧ 0 ≤ p.2 ∧ p.2 < G
structure RosOk (n m : Nat) (R : Ros) : Prop where
  T0 : 1 ≤ R.T
  T1 : R.T ≤ n
  G0 : 1 ≤ R.G
  G1 : R.G ≤ n
  len : R.ls.length ≤ m
  ok : LsOk R.T R.G R.ls
theorem LsOk.snoc {T G : Int} {ls : List (Int × Int)} (h : LsOk T G ls) {a b : Int} (ha : 0 ≤ a ∧ a < T ∧ 0 ≤ b ∧ b < G) : LsOk T G (ls ++ [(a, b)]) := fun p hp => by
  rcases List.mem_append.mp hp with z | z
  · exact h p z
  · rw [List.mem_singleton.mp z]; exact ha
abbrev Les := Int × Int
def lsA (ls : List Les) (i : Nat) : Les := ls.getD i (0, 0)
theorem at_getD {α β : Type} {f : α → β} {l : List α} {i : Nat} (h : i < l.length) (d : α) : atI (l.map f) ((i : Nat) : Int) = some (f (l.getD i d)) := by
  have h' : i < (l.map f).length := by simpa using h
  rw [at_nat h', List.getElem_map, List.getD_eq_getElem?_getD, List.getElem?_eq_getElem h]; rfl
theorem ros_ix {R : Ros} : gIx (rosD R) (.int 2) = some (.tuple (R.ls.map les)) := by simp [rosD]
def sideOf (b : Bool) (p : Les) : Int := if b = true then p.2 else p.1
def placeD (b : Bool) : PyData := .int (if b = true then 1 else 0)
theorem ix_side (b : Bool) (p : Les) : gIx (les p) (placeD b) = some (.int (sideOf b p)) := by cases b <;> simp [les, placeD, sideOf]
theorem zipIdx_range {α : Type} (l : List α) (d : α) : l.zipIdx = (List.range l.length).map fun k => (l.getD k d, k) := by
  apply List.ext_getElem (by simp)
  intro i h1 h2
  rw [List.length_zipIdx] at h1
  rw [List.getElem_zipIdx, List.getElem_map, List.getElem_range, List.getD_eq_getElem?_getD, List.getElem?_eq_getElem h1, Nat.zero_add]
  rfl
end LK
namespace LK
open PySem L2 PySem.Spec DL
theorem pick5 {r : Int} (h0 : 0 ≤ r) (h1 : r < 5) : ∃ p : Int, gIx (.list [(.int 1), (.int 2), (.int 3), (.int 4), (.int 8)]) (.int r) = some (.int p) ∧ 1 ≤ p ∧ p ≤ 8 := by
  have : r = 0 ∨ r = 1 ∨ r = 2 ∨ r = 3 ∨ r = 4 := by omega
  rcases this with rfl | rfl | rfl | rfl | rfl
  · exact ⟨1, rfl, by decide, by decide⟩
  · exact ⟨2, rfl, by decide, by decide⟩
  · exact ⟨3, rfl, by decide, by decide⟩
  · exact ⟨4, rfl, by decide, by decide⟩
  · exact ⟨8, rfl, by decide, by decide⟩
theorem rosterM_ok {k : Nat} {d : PyData} (hd : Deck k d) (hk : k ≤ 1000000) {M : Nat} (hM : M ≤ 16) : ∃ (R : Ros) (d' : PyData), f__law_roster d (.int (M : Nat)) = some (rosD R, d') ∧ Deck (k + 60) d' ∧ RosOk 8 M R := by
  obtain ⟨r0, d1, h1, k1, a0, a1⟩ := next_ok hd (by omega) 5 (by decide) (by decide)
  obtain ⟨P, hP, P0, P1⟩ := pick5 a0 a1
  obtain ⟨x, d2, h2, k2, x0, x1⟩ := next_ok k1 (by omega) P (by omega) (by omega)
  obtain ⟨y, d3, h3, k3, y0, y1⟩ := next_ok k2 (by omega) P (by omega) (by omega)
  have a17 : gAdd (.int ((M : Nat) : Int)) (.int 1) = some (.int ((M : Nat) + 1)) := rfl
  obtain ⟨w, d4, h4, k4, w0, w1⟩ := next_ok k3 (by omega) (((M : Nat) : Int) + 1) (by omega) (by omega)
  have rn := rng1_ok w0 (show w ≤ 1000000 by omega)
  obtain ⟨ls, d5, h5, k5, l5, o5⟩ := mapE_typ (f := C__law_roster_1 (.int (1 + x)) (.int (1 + y))) les (fun i s => Deck (k + 4 + 2 * i) s) (fun _ p => (0 ≤ p.1 ∧ p.1 < 1 + x) ∧ 0 ≤ p.2 ∧ p.2 < 1 + y) (l := (List.range w.toNat).map natD) (k := 0) (s := d4) k4 fun i a s ha hs => by
    have hi := (List.getElem?_eq_some_iff.mp ha).1
    rw [List.length_map, List.length_range] at hi
    obtain ⟨t, e1, g1, q1, t0, t1⟩ := next_ok hs (by omega) (1 + x) (by omega) (by omega)
    obtain ⟨g, e2, g2, q2, g0, g1'⟩ := next_ok q1 (by omega) (1 + y) (by omega) (by omega)
    refine ⟨(t, g), e2, ?_, q2.mono (by omega), ⟨t0, t1⟩, g0, g1'⟩
    simp -implicitDefEqProofs only [C__law_roster_1, g1, g2, Option.bind_some]
    rfl
  rw [List.length_map, List.length_range] at l5 k5
  have okl : LsOk (1 + x) (1 + y) ls := fun p hp => by
    obtain ⟨i, hi, rfl⟩ := List.mem_iff_getElem.mp hp
    have := o5 i _ (List.getElem?_eq_getElem hi)
    exact ⟨this.1.1, this.1.2, this.2.1, this.2.2⟩
  have n1 : gNe (.list (ls.map les)) (.list []) = some (.bool (!(ls.map les).isEmpty)) := xNeNilL
  have fin : ∀ (ls' : List (Int × Int)), ls'.length = ls.length → LsOk (1 + x) (1 + y) ls' → RosOk 8 M ⟨1 + x, 1 + y, ls'⟩ := fun ls' e h => ⟨by show 1 ≤ 1 + x; omega, by show 1 + x ≤ ((8 : Nat) : Int); omega, by show 1 ≤ 1 + y; omega, by show 1 + y ≤ ((8 : Nat) : Int); omega, by show ls'.length ≤ M; omega, h⟩
  by_cases hE : ls = []
  · have n1' : gNe (.list (ls.map les)) (.list []) = some (.bool false) := by rw [n1, hE]; rfl
    refine ⟨⟨1 + x, 1 + y, ls⟩, d5, ?_, k5.mono (by omega), fin ls rfl okl⟩
    simp -implicitDefEqProofs only [f__law_roster, h1, hP, h2, h3, xAdd, un2_ok, a17, h4, rn, h5, n1', asB_bool, Bool.false_eq_true, if_false, Option.bind_some, xTupL]
    rfl
  · have lp : 0 < ls.length := List.length_pos_iff.mpr hE
    have n1' : gNe (.list (ls.map les)) (.list []) = some (.bool true) := by
      rw [n1]
      cases ls with
      | nil => exact absurd rfl hE
      | cons => rfl
    obtain ⟨z, d6, h6, k6, z0, z1⟩ := next_ok k5 (by omega) 3 (by decide) (by decide)
    by_cases c : z = 0
    · have i0 : itemD (.list (ls.map les)) (.int 0) = some (les (ls.getD 0 (0, 0))) := at_getD lp (0, 0)
      have s0 : gSet (.list (ls.map les)) (.int (-1)) (les (ls.getD 0 (0, 0))) = some (.list ((ls.set (ls.length - 1) (ls.getD 0 (0, 0))).map les)) := by
        have e : ixN (ls.map les).length (-1) = some (ls.length - 1) := by
          unfold ixN
          rw [List.length_map]
          simp
          omega
        show (ixN (ls.map les).length (-1)).bind _ = _
        rw [e, List.map_set]; rfl
      have m0 : ls.getD 0 (0, 0) ∈ ls := by
        rw [List.getD_eq_getElem?_getD, List.getElem?_eq_getElem lp]; exact List.getElem_mem lp
      refine ⟨⟨1 + x, 1 + y, ls.set (ls.length - 1) (ls.getD 0 (0, 0))⟩, d6, ?_, k6.mono (by omega), fin _ (by rw [List.length_set]) fun p hp => ?_⟩
      · simp -implicitDefEqProofs only [f__law_roster, h1, hP, h2, h3, xAdd, un2_ok, a17, h4, rn, h5, n1', asB_bool, if_true, h6, xEq, decide_eq_true c, i0, s0, Option.bind_some, xTupL]
        rfl
      · rcases List.mem_or_eq_of_mem_set hp with q | q
        · exact okl p q
        · rw [q]; exact okl _ m0
    · refine ⟨⟨1 + x, 1 + y, ls⟩, d6, ?_, k6.mono (by omega), fin ls rfl okl⟩
      simp -implicitDefEqProofs only [f__law_roster, h1, hP, h2, h3, xAdd, un2_ok, a17, h4, rn, h5, n1', asB_bool, if_true, h6, xEq, decide_eq_false c, Bool.false_eq_true, if_false, Option.bind_some, xTupL]
      rfl
theorem roster_ok {k : Nat} {d : PyData} (hd : Deck k d) (hk : k ≤ 1000000) : ∃ (R : Ros) (d' : PyData), f__law_roster d (.int 16) = some (rosD R, d') ∧ Deck (k + 60) d' ∧ RosOk 8 16 R := rosterM_ok hd hk (M := 16) (Nat.le_refl _)
end LK
namespace LK
open PySem L2 PySem.Spec DL
def sortL (xs : List PyData) : List PyData := xs.mergeSort (PySem.W.dataLe false id)
theorem sortOk_ints (l : List Int) : sortOk (l.map .int) = true := by
  unfold sortOk
  simp only [Bool.and_eq_true, List.all_eq_true, decide_eq_true_eq, Bool.or_eq_true]
  refine ⟨⟨fun x hx y hy => ?_, .inr fun x hx => ?_⟩, ?_⟩
  · obtain ⟨k, _, rfl⟩ := List.mem_map.mp hx
    obtain ⟨j, _, rfl⟩ := List.mem_map.mp hy
    simp [PySem.W.alike]
  · obtain ⟨k, _, rfl⟩ := List.mem_map.mp hx
    rfl
  · exact Nat.le_trans (depth_map (f := PyData.int) (n := 0) fun _ => Nat.le_refl 0) (by decide)
theorem xSortL (l : List Int) : gSorted (.list (l.map .int)) = some (.list (sortL (l.map .int))) := if_pos (sortOk_ints l)
theorem dataLe_int (i j : Int) : PySem.W.dataLe false id (.int i) (.int j) = decide (i ≤ j) := by
  show PySem.W.dataLe false (fun b : Int => PyData.int b) i j = _
  rw [PySem.W.dataLe_int fun b : Int => b]
theorem sortL_ints (l : List Int) : sortL (l.map .int) = (l.mergeSort fun i j => decide (i ≤ j)).map .int := by
  unfold sortL
  exact (List.map_mergeSort fun a _ b _ => (dataLe_int a b).symm).symm
theorem sort_rising {l m : List Int} (p : l.Perm m) (h : m.Pairwise (· < ·)) : sortL (l.map .int) = m.map .int := by
  rw [sortL_ints]
  congr 1
  have p1 := (List.mergeSort_perm l fun i j => decide (i ≤ j)).trans p
  have s1 : (l.mergeSort fun i j => decide (i ≤ j)).Pairwise fun i j => decide (i ≤ j) = true := List.pairwise_mergeSort (fun a b c h1 h2 => by simp at h1 h2 ⊢; omega) (fun a b => by simp; omega) l
  have nd : (l.mergeSort fun i j => decide (i ≤ j)).Nodup := p1.nodup_iff.mpr (lt_nodup h)
  refine rising_one ?_ h fun j => p1.mem_iff
  have := List.Pairwise.and s1 nd
  exact this.imp fun {a b} h => by
    have h1 := of_decide_eq_true h.1
    have h2 : a ≠ b := h.2
    omega
end LK
namespace LK
open PySem L2 PySem.Spec DL
theorem cast_list (L : List Nat) : L.map natD = (L.map fun x => ((x : Nat) : Int)).map .int := by rw [List.map_map]; rfl
theorem cast_mem {L : List Nat} {k : Nat} : decide (((k : Nat) : Int) ∈ L.map fun x => ((x : Nat) : Int)) = decide (k ∈ L) := by
  rw [decide_eq_decide, List.mem_map]
  constructor
  · rintro ⟨a, h1, h2⟩
    rwa [show k = a by omega]
  · intro h
    exact ⟨k, h, rfl⟩
theorem in_list {L : List Nat} {k : Nat} : gIn (natD k) (.list (L.map natD)) = some (.bool (decide (k ∈ L))) := by
  rw [cast_list]
  have := xInL (i := ((k : Nat) : Int)) (l := L.map fun x => ((x : Nat) : Int))
  rw [cast_mem] at this
  exact this
theorem notin_list {L : List Nat} {k : Nat} : gNotIn (natD k) (.list (L.map natD)) = some (.bool (!decide (k ∈ L))) := by
  rw [cast_list]
  have := xNotInL (i := ((k : Nat) : Int)) (l := L.map fun x => ((x : Nat) : Int))
  rw [cast_mem] at this
  exact this
theorem in_tuple {L : List Nat} {k : Nat} : gIn (natD k) (.tuple (L.map natD)) = some (.bool (decide (k ∈ L))) := by
  rw [cast_list]
  have := xInT (i := ((k : Nat) : Int)) (l := L.map fun x => ((x : Nat) : Int))
  rw [cast_mem] at this
  exact this
theorem like_nats (l : List Nat) : likeOk (l.map natD) = true := by
  unfold likeOk
  simp only [Bool.and_eq_true, List.all_eq_true, decide_eq_true_eq]
  refine ⟨⟨⟨plain_map fun _ => rfl, fun x hx y hy => ?_⟩, fun x hx => ?_⟩, Nat.le_trans (depth_map (f := natD) (n := 0) fun _ => Nat.le_refl 0) (by decide)⟩
  · obtain ⟨a, _, rfl⟩ := List.mem_map.mp hx
    obtain ⟨b, _, rfl⟩ := List.mem_map.mp hy
    simp [PySem.W.alike, natD]
  · obtain ⟨a, _, rfl⟩ := List.mem_map.mp hx
    rfl
def mxN : List Nat → Nat
  | [] => 0
  | n :: ns => ns.foldl max n
theorem fold_max (ns : List Nat) : ∀ n : Nat, (ns.map fun x => ((x : Nat) : Int)).foldl max (n : Int) = ((ns.foldl max n : Nat) : Int) := by
  induction ns with
  | nil => intro n; rfl
  | cons a ns ih =>
    intro n
    rw [List.map_cons, List.foldl_cons, List.foldl_cons, show max (n : Int) (a : Int) = ((max n a : Nat) : Int) by omega, ih]
theorem fold_max_ge (ns : List Nat) : ∀ n : Nat, n ≤ ns.foldl max n ∧ ∀ k ∈ ns, k ≤ ns.foldl max n := by
  induction ns with
  | nil => intro n; exact ⟨Nat.le_refl _, fun k h => by cases h⟩
  | cons a ns ih =>
    intro n
    have := ih (max n a)
    refine ⟨by rw [List.foldl_cons]; omega, fun k hk => ?_⟩
    rw [List.foldl_cons]
    rcases List.mem_cons.mp hk with rfl | z
    · omega
    · exact this.2 k z
theorem fold_max_mem (ns : List Nat) : ∀ n : Nat, ns.foldl max n = n ∨ ns.foldl max n ∈ ns := by
  induction ns with
  | nil => intro n; exact .inl rfl
  | cons a ns ih =>
    intro n
    rw [List.foldl_cons]
    rcases ih (max n a) with h | h
    · rw [h]
      rcases Nat.le_total n a with q | q
      · rw [Nat.max_eq_right q]; exact .inr (List.mem_cons_self ..)
      · rw [Nat.max_eq_left q]; exact .inl rfl
    · exact .inr (List.mem_cons_of_mem _ h)
theorem mx_ge {l : List Nat} {k : Nat} (h : k ∈ l) : k ≤ mxN l := by
  cases l with
  | nil => cases h
  | cons n ns =>
    rcases List.mem_cons.mp h with rfl | z
    · exact (fold_max_ge ns k).1
    · exact (fold_max_ge ns n).2 k z
theorem mx_mem {l : List Nat} (h : l ≠ []) : mxN l ∈ l := by
  cases l with
  | nil => exact absurd rfl h
  | cons n ns =>
    rcases fold_max_mem ns n with q | q
    · show ns.foldl max n ∈ n :: ns
      rw [q]; exact List.mem_cons_self ..
    · exact List.mem_cons_of_mem _ q
theorem mx_nat {n : Nat} {ns : List Nat} : PySem.W.maxD (natD n) (ns.map natD) = natD (mxN (n :: ns)) := by
  rw [cast_list]
  show PySem.W.maxD (.int (n : Nat)) _ = _
  rw [PySem.W.maxD_ints, fold_max]; rfl
theorem xMaxNL {l : List Nat} (h : l ≠ []) : gMax (.list (l.map natD)) = some (natD (mxN l)) := by
  cases l with
  | nil => exact absurd rfl h
  | cons n ns =>
    show (if likeOk ((n :: ns).map natD) = true then some (PySem.W.maxD (natD n) (ns.map natD)) else none) = _
    rw [like_nats, if_pos rfl, mx_nat]
end LK
namespace LK
open PySem L2 PySem.Spec DL
section
variable (mem : List Nat) (adj : Nat → Nat → Bool) (s0 : Nat)
def stepC (f : List Nat) : List Nat := mem.filter fun k => decide (k ∈ f) || f.any (adj k)
def itrC : Nat → List Nat
  | 0 => [s0]
  | n + 1 => stepC mem adj (itrC n)
def ClosedC (C : Nat → Prop) : Prop := C s0 ∧ ∀ k o, C k → o ∈ mem → adj k o = true → C o
variable {mem adj s0}
theorem step_mem {f : List Nat} {k : Nat} : k ∈ stepC mem adj f ↔ k ∈ mem ∧ (k ∈ f ∨ ∃ o ∈ f, adj k o = true) := by
  rw [stepC, List.mem_filter, Bool.or_eq_true, decide_eq_true_iff, List.any_eq_true]
theorem itr_sub (sym : ∀ a b, adj a b = adj b a) {C : Nat → Prop} (hC : ClosedC mem adj s0 C) : ∀ (n : Nat), ∀ k ∈ itrC mem adj s0 n, C k
  | 0, k, h => by rw [List.mem_singleton.mp h]; exact hC.1
  | n + 1, k, h => by
    obtain ⟨h1, h2⟩ := step_mem.mp h
    rcases h2 with h2 | ⟨o, h2, h3⟩
    · exact itr_sub sym hC n k h2
    · exact hC.2 o k (itr_sub sym hC n o h2) h1 (by rw [sym]; exact h3)
theorem itr_has (h0 : s0 ∈ mem) : ∀ n, s0 ∈ itrC mem adj s0 n
  | 0 => List.mem_singleton.mpr rfl
  | n + 1 => step_mem.mpr ⟨h0, .inl (itr_has h0 n)⟩
theorem filter_imp {α : Type} {p q : α → Bool} : ∀ {l : List α}, (∀ a ∈ l, p a = true → q a = true) → (l.filter p).length ≤ (l.filter q).length ∧ ((l.filter p).length = (l.filter q).length → l.filter p = l.filter q)
  | [], _ => ⟨Nat.le_refl _, fun _ => rfl⟩
  | a :: l, h => by
    obtain ⟨h1, h2⟩ := filter_imp (p := p) (q := q) (l := l) fun b hb => h b (List.mem_cons_of_mem _ hb)
    have ha := h a (List.mem_cons_self ..)
    rw [List.filter_cons, List.filter_cons]
    by_cases hp : p a = true
    · rw [if_pos hp, if_pos (ha hp), List.length_cons, List.length_cons]
      exact ⟨by omega, fun e => by rw [h2 (by omega)]⟩
    · rw [if_neg hp]
      by_cases hq : q a = true
      · rw [if_pos hq, List.length_cons]
        exact ⟨by omega, fun e => by omega⟩
      · rw [if_neg hq]
        exact ⟨h1, h2⟩
theorem itr_grow (h0 : s0 ∈ mem) : ∀ n, itrC mem adj s0 (n + 1) = itrC mem adj s0 n ∨ n + 1 ≤ (itrC mem adj s0 (n + 1)).length
  | 0 => .inr (List.length_pos_of_mem (itr_has h0 1))
  | n + 1 => by
    rcases itr_grow h0 n with h | h
    · refine .inl ?_
      show stepC mem adj (itrC mem adj s0 (n + 1)) = _
      rw [h]; exact h
    · have := filter_imp (l := mem) (p := fun k => decide (k ∈ itrC mem adj s0 n) || (itrC mem adj s0 n).any (adj k)) (q := fun k => decide (k ∈ itrC mem adj s0 (n + 1)) || (itrC mem adj s0 (n + 1)).any (adj k)) fun a ha hp => by
        have : a ∈ itrC mem adj s0 (n + 1) := List.mem_filter.mpr ⟨ha, hp⟩
        rw [decide_eq_true this]; rfl
      have l1 : (itrC mem adj s0 (n + 1)).length ≤ (itrC mem adj s0 (n + 1 + 1)).length := this.1
      by_cases e : (itrC mem adj s0 (n + 1)).length = (itrC mem adj s0 (n + 1 + 1)).length
      · exact .inl (this.2 e).symm
      · exact .inr (by omega)
theorem itr_fix (h0 : s0 ∈ mem) : stepC mem adj (itrC mem adj s0 mem.length) = itrC mem adj s0 mem.length := by
  rcases itr_grow (adj := adj) h0 mem.length with h | h
  · exact h
  · have : (itrC mem adj s0 (mem.length + 1)).length ≤ mem.length := List.length_filter_le _ _
    omega
theorem itr_closed (sym : ∀ a b, adj a b = adj b a) (h0 : s0 ∈ mem) : ClosedC mem adj s0 (· ∈ itrC mem adj s0 mem.length) := by
  refine ⟨itr_has h0 _, fun k o hk ho ha => ?_⟩
  have : o ∈ stepC mem adj (itrC mem adj s0 mem.length) := step_mem.mpr ⟨ho, .inr ⟨k, hk, by rw [sym]; exact ha⟩⟩
  rwa [itr_fix h0] at this
theorem itr_sublist (h0 : s0 ∈ mem) : (itrC mem adj s0 mem.length).Sublist mem := by
  rw [← itr_fix h0]
  exact List.filter_sublist
structure Srch (mem : List Nat) (adj : Nat → Nat → Bool) (s0 : Nat) (fl : List Nat) (i : Nat) : Prop where
  nd : fl.Nodup
  sub : ∀ k ∈ fl, k ∈ mem
  low : ∀ C, ClosedC mem adj s0 C → ∀ k ∈ fl, C k
  has : s0 ∈ fl
  le : i ≤ fl.length
  exp : ∀ x, x < i → ∀ o ∈ mem, adj (fl.getD x 0) o = true → o ∈ fl
theorem srch_end (sym : ∀ a b, adj a b = adj b a) (h0 : s0 ∈ mem) (nm : mem.Nodup) {fl : List Nat} (h : Srch mem adj s0 fl fl.length) : fl.Perm (itrC mem adj s0 mem.length) := by
  refine (List.perm_ext_iff_of_nodup h.nd (nm.sublist (itr_sublist h0))).mpr fun k => ⟨fun hk => h.low _ (itr_closed sym h0) k hk, fun hk => ?_⟩
  refine itr_sub sym (C := (· ∈ fl)) ⟨h.has, fun a o ha ho hadj => ?_⟩ _ k hk
  obtain ⟨x, hx, rfl⟩ := List.mem_iff_getElem.mp ha
  refine h.exp x hx o ho ?_
  rw [List.getD_eq_getElem?_getD, List.getElem?_eq_getElem hx]
  exact hadj
theorem srch_len (nm : mem.Nodup) {fl : List Nat} {i : Nat} (h : Srch mem adj s0 fl i) : fl.length ≤ mem.length := by
  have p : fl.Perm (mem.filter fun k => decide (k ∈ fl)) := (List.perm_ext_iff_of_nodup h.nd (nm.filter _)).mpr fun k => by
    rw [List.mem_filter, decide_eq_true_iff]
    exact ⟨fun hk => ⟨h.sub k hk, hk⟩, fun hk => hk.2⟩
  rw [p.length_eq]
  exact List.length_filter_le _ _
end
def adjB (ls : List Les) (a b : Nat) : Bool := decide (a ≠ b) && (decide ((lsA ls a).1 = (lsA ls b).1) || decide ((lsA ls a).2 = (lsA ls b).2))
theorem adj_sym (ls : List Les) (a b : Nat) : adjB ls a b = adjB ls b a := by
  unfold adjB
  rw [Bool.eq_iff_iff]
  simp only [Bool.and_eq_true, Bool.or_eq_true, decide_eq_true_iff]
  constructor
  · rintro ⟨h1, h2⟩; exact ⟨Ne.symm h1, h2.imp Eq.symm Eq.symm⟩
  · rintro ⟨h1, h2⟩; exact ⟨Ne.symm h1, h2.imp Eq.symm Eq.symm⟩
def uA (us : List Int) (k : Nat) : Int := us.getD k 0
def inP (us : List Int) (a h : Int) (k : Nat) : Bool := decide (uA us k ∈ [a, h])
def memC (us : List Int) (a h : Int) : List Nat := (List.range us.length).filter (inP us a h)
theorem u_ix {us : List Int} {k : Nat} (hk : k < us.length) : gIx (.tuple (us.map .int)) (natD k) = some (.int (uA us k)) := at_getD hk 0
theorem in_pair (u a h : Int) : gIn (.int u) (.tuple [.int a, .int h]) = some (.bool (decide (u ∈ [a, h]))) := xInT (l := [a, h])
theorem mem_in {us : List Int} {a h : Int} {o : Nat} : o ∈ memC us a h ↔ o < us.length ∧ inP us a h o = true := by
  rw [memC, List.mem_filter, List.mem_range]
theorem adj_core {R : Ros} {k o : Nat} (hk : k < R.ls.length) (ho : o < R.ls.length) : gIx (.tuple (R.ls.map les)) (natD k) = some (les (lsA R.ls k)) ∧ gIx (.tuple (R.ls.map les)) (natD o) = some (les (lsA R.ls o)) ∧ gNe (natD k) (natD o) = some (.bool (decide (k ≠ o))) := by
  refine ⟨at_getD hk (0, 0), at_getD ho (0, 0), ?_⟩
  show gNe (.int _) (.int _) = _
  rw [xNe]
  congr 2
  rw [Bool.eq_iff_iff]
  simp
  omega
end LK
namespace LK
open PySem L2 PySem.Spec DL
theorem rivals_are {R : Ros} {k o : Nat} (hk : k < R.ls.length) (ho : o < R.ls.length) : f_are_rivals (rosD R) (natD k) (natD o) = some (.bool (adjB R.ls k o)) := by
  obtain ⟨e1, e2, e3⟩ := adj_core hk ho
  have a0 : ∀ p : Les, gIx (les p) (.int 0) = some (.int p.1) := fun p => by simp [les]
  have a1 : ∀ p : Les, gIx (les p) (.int 1) = some (.int p.2) := fun p => by simp [les]
  unfold adjB
  cases hc : decide (k ≠ o) with
  | false => simp [f_are_rivals, ros_ix, e1, e2, e3, hc]
  | true =>
    by_cases h : (lsA R.ls k).1 = (lsA R.ls o).1
    · simp [f_are_rivals, ros_ix, e1, e2, e3, hc, a0, a1, h]
    · simp [f_are_rivals, ros_ix, e1, e2, e3, hc, a0, a1, h]
theorem rivals_ok {R : Ros} (hl : R.ls.length ≤ 1000) {k : Nat} (hk : k < R.ls.length) : f_rivals (rosD R) (natD k) = some (.tuple (((List.range R.ls.length).filter (adjB R.ls k)).map natD)) := by
  have e1 : gLen (.tuple (R.ls.map les)) = some (.int (R.ls.length : Nat)) := by simp
  have f1 : filS ((List.range R.ls.length).map natD) (C_rivals_1 (rosD R) (natD k)) = some (((List.range R.ls.length).filter (adjB R.ls k)).map natD) := filS_of fun o ho => by
    simp -implicitDefEqProofs only [C_rivals_1, rivals_are hk (List.mem_range.mp ho), Option.bind_some, xTruB]
    split <;> rfl
  simp -implicitDefEqProofs only [f_rivals, ros_ix, Option.bind_some, e1, rng1_nat (show R.ls.length ≤ 1000000 by omega), f1, xTupL]
theorem srch_step {R : Ros} {us : List Int} (hu : us.length = R.ls.length) (hl : us.length ≤ 1000) {a h : Int} {k0 : Nat} {fl : List Nat} {i : Nat} (S : Srch (memC us a h) (adjB R.ls) k0 fl i) (hi : i < fl.length) :
    ∃ fl', L_chain_of_1 (rosD R) (.tuple (us.map .int)) (.tuple [.int a, .int h]) (.list (fl.map natD), natD i) = some (.list (fl'.map natD), natD (i + 1)) ∧ Srch (memC us a h) (adjB R.ls) k0 fl' (i + 1) := by
  have nm : (memC us a h).Nodup := List.nodup_range.filter _
  have hx : fl[i] ∈ fl := List.getElem_mem hi
  have xl : fl[i] < R.ls.length := by have := (mem_in.mp (S.sub _ hx)).1; omega
  have e1 : itemD (.list (fl.map natD)) (natD i) = some (natD fl[i]) := by
    have := at_nat (l := fl.map natD) (n := i) (by rw [List.length_map]; exact hi)
    rw [List.getElem_map] at this
    exact this
  have e2 := rivals_ok (by omega) xl
  obtain ⟨s', h1, fl', rfl, hp, S', hx'⟩ := foldS_inv (f := fun o s => L_chain_of_2 (.tuple (us.map .int)) (.tuple [.int a, .int h]) (natD o) s) (l := (List.range R.ls.length).filter (adjB R.ls fl[i])) (k := 0) (s := PyData.list (fl.map natD))
    (fun j s => ∃ fl' : List Nat, s = .list (fl'.map natD) ∧ fl <+: fl' ∧ Srch (memC us a h) (adjB R.ls) k0 fl' i ∧ ∀ o ∈ ((List.range R.ls.length).filter (adjB R.ls fl[i])).take j, inP us a h o = true → o ∈ fl') ⟨fl, rfl, List.prefix_refl fl, S, fun o ho => (by simp at ho)⟩ fun j o s ho hs => by
      obtain ⟨fl1, rfl, p1, S1, x1⟩ := hs
      have hr := List.mem_filter.mp (List.mem_of_getElem? ho)
      have ol := List.mem_range.mp hr.1
      have g1 := u_ix (us := us) (k := o) (by omega)
      have g2 : gIn (.int (uA us o)) (.tuple [.int a, .int h]) = some (.bool (inP us a h o)) := in_pair _ _ _
      have g3 := notin_list (L := fl1) (k := o)
      rw [Nat.zero_add] at x1 ⊢
      have tk : ((List.range R.ls.length).filter (adjB R.ls fl[i])).take (j + 1) = ((List.range R.ls.length).filter (adjB R.ls fl[i])).take j ++ [o] := by
        rw [List.take_succ, ho]; rfl
      by_cases c1 : inP us a h o = true
      · rw [c1] at g2
        by_cases c2 : o ∈ fl1
        · rw [decide_eq_true c2] at g3
          refine ⟨_, by simp -implicitDefEqProofs only [L_chain_of_2, g1, Option.bind_some, g2, asB_bool, if_true, g3, Bool.not_true, Bool.false_eq_true, if_false], fl1, rfl, p1, S1, fun q hq hP => ?_⟩
          rw [tk] at hq
          rcases List.mem_append.mp hq with hq | hq
          · exact x1 q hq hP
          · rw [List.mem_singleton.mp hq]; exact c2
        · rw [decide_eq_false c2] at g3
          have sl := srch_len nm S1
          have ml : (memC us a h).length ≤ us.length := by have := List.length_filter_le (inP us a h) (List.range us.length); rw [List.length_range] at this; exact this
          have ap : gApp (.list (fl1.map natD)) (natD o) = some (.list ((fl1 ++ [o]).map natD)) := by
            rw [xApp (by rw [List.length_map]; omega), List.map_append]; rfl
          refine ⟨_, by simp -implicitDefEqProofs only [L_chain_of_2, g1, Option.bind_some, g2, asB_bool, if_true, g3, Bool.not_false, ap], fl1 ++ [o], rfl, p1.trans (List.prefix_append fl1 [o]), ⟨?_, fun q hq => ?_, fun C hC q hq => ?_, List.mem_append_left _ S1.has, by rw [List.length_append]; have := S1.le; omega, fun x hx q hq ha => ?_⟩, fun q hq hP => ?_⟩
          · refine List.nodup_append.mpr ⟨S1.nd, (by simp), fun p hp q hq e => c2 ?_⟩
            rw [List.mem_singleton] at hq
            rw [← hq, ← e]; exact hp
          · rcases List.mem_append.mp hq with hq | hq
            · exact S1.sub q hq
            · rw [List.mem_singleton.mp hq]; exact mem_in.mpr ⟨by omega, c1⟩
          · rcases List.mem_append.mp hq with hq | hq
            · exact S1.low C hC q hq
            · rw [List.mem_singleton.mp hq]
              exact hC.2 fl[i] o (S1.low C hC _ (p1.subset hx)) (mem_in.mpr ⟨by omega, c1⟩) hr.2
          · have e : (fl1 ++ [o]).getD x 0 = fl1.getD x 0 := by
              rw [List.getD_eq_getElem?_getD, List.getD_eq_getElem?_getD, List.getElem?_append_left (by have := S1.le; omega)]
            rw [e] at ha
            exact List.mem_append_left _ (S1.exp x hx q hq ha)
          · rw [tk] at hq
            rcases List.mem_append.mp hq with hq | hq
            · exact List.mem_append_left _ (x1 q hq hP)
            · exact List.mem_append_right _ hq
      · rw [Bool.not_eq_true] at c1
        rw [c1] at g2
        refine ⟨_, by simp -implicitDefEqProofs only [L_chain_of_2, g1, Option.bind_some, g2, asB_bool, Bool.false_eq_true, if_false], fl1, rfl, p1, S1, fun q hq hP => ?_⟩
        rw [tk] at hq
        rcases List.mem_append.mp hq with hq | hq
        · exact x1 q hq hP
        · rw [List.mem_singleton.mp hq, c1] at hP; cases hP
  rw [Nat.zero_add, List.take_length] at hx'
  have gi : fl'.getD i 0 = fl[i] := by
    obtain ⟨t, rfl⟩ := hp
    rw [List.getD_eq_getElem?_getD, List.getElem?_append_left hi, List.getElem?_eq_getElem hi]; rfl
  have h1' : foldS (((List.range R.ls.length).filter (adjB R.ls fl[i])).map natD) (L_chain_of_2 (.tuple (us.map .int)) (.tuple [.int a, .int h])) (.list (fl.map natD)) = some (.list (fl'.map natD)) := by
    rw [foldS_map]; exact h1
  have ad : gAddI (natD i) (.int 1) = some (natD (i + 1)) := rfl
  refine ⟨fl', ?_, ⟨S'.nd, S'.sub, S'.low, S'.has, by have := hp.length_le; omega, fun x hx'' o ho ha => ?_⟩⟩
  · simp -implicitDefEqProofs only [L_chain_of_1, e1, Option.bind_some, e2, xSeqT, h1', ad]
  · by_cases hxi : x = i
    · subst hxi
      rw [gi] at ha
      have q := mem_in.mp ho
      exact hx' o (List.mem_filter.mpr ⟨List.mem_range.mpr (by omega), ha⟩) q.2
    · exact S'.exp x (by omega) o ho ha
theorem srch_loop {R : Ros} {us : List Int} (hu : us.length = R.ls.length) (hl : us.length ≤ 1000) {a h : Int} {k0 : Nat} : ∀ (n : Nat) (fl : List Nat) (i f : Nat), us.length - i ≤ n → n < f → Srch (memC us a h) (adjB R.ls) k0 fl i →
    ∃ (fl' : List Nat), whS f WL_chain_of_1 (L_chain_of_1 (rosD R) (.tuple (us.map .int)) (.tuple [.int a, .int h])) (.list (fl.map natD), natD i) = some (.list (fl'.map natD), natD fl'.length) ∧ Srch (memC us a h) (adjB R.ls) k0 fl' fl'.length := by
  intro n
  induction n with
  | zero =>
    intro fl i f h1 h2 S
    have nm : (memC us a h).Nodup := List.nodup_range.filter _
    have sl := srch_len nm S
    have ml : (memC us a h).length ≤ us.length := by have := List.length_filter_le (inP us a h) (List.range us.length); rw [List.length_range] at this; exact this
    have hle := S.le
    have hi : i = fl.length := by omega
    subst hi
    cases f with
    | zero => omega
    | succ f =>
      refine ⟨fl, whS_end ?_, S⟩
      have e : gLt (natD fl.length) (.int (((fl.map natD).length : Nat) : Int)) = some (.bool false) := by
        show gLt (.int _) (.int _) = _
        rw [xLt]
        exact congrArg (fun b => some (PyData.bool b)) (decide_eq_false (by rw [List.length_map]; omega))
      simp -implicitDefEqProofs only [WL_chain_of_1, xLenL, Option.bind_some, e, asB_bool]
  | succ n ih =>
    intro fl i f h1 h2 S
    cases f with
    | zero => omega
    | succ f =>
      have hle := S.le
      by_cases hi : i < fl.length
      · have e : gLt (natD i) (.int (((fl.map natD).length : Nat) : Int)) = some (.bool true) := by
          show gLt (.int _) (.int _) = _
          rw [xLt]
          exact congrArg (fun b => some (PyData.bool b)) (decide_eq_true (by rw [List.length_map]; omega))
        have hw : WL_chain_of_1 (.list (fl.map natD), natD i) = some true := by
          simp -implicitDefEqProofs only [WL_chain_of_1, xLenL, Option.bind_some, e, asB_bool]
        obtain ⟨fl1, e1, S1⟩ := srch_step hu hl S hi
        obtain ⟨fl2, e2, S2⟩ := ih fl1 (i + 1) f (by omega) (by omega) S1
        exact ⟨fl2, by rw [whS_step hw e1, e2], S2⟩
      · have hi : i = fl.length := by omega
        subst hi
        refine ⟨fl, whS_end ?_, S⟩
        have e : gLt (natD fl.length) (.int (((fl.map natD).length : Nat) : Int)) = some (.bool false) := by
          show gLt (.int _) (.int _) = _
          rw [xLt]
          exact congrArg (fun b => some (PyData.bool b)) (decide_eq_false (by rw [List.length_map]; omega))
        simp -implicitDefEqProofs only [WL_chain_of_1, xLenL, Option.bind_some, e, asB_bool]
theorem chain_ok {R : Ros} {us : List Int} (hu : us.length = R.ls.length) (hl : us.length ≤ 1000) {k0 : Nat} (hk : k0 < us.length) (h : Int) :
    f_chain_of (rosD R) (.tuple (us.map .int)) (natD k0) (.int h) = some (.tuple ((itrC (memC us (uA us k0) h) (adjB R.ls) k0 (memC us (uA us k0) h).length).map natD)) := by
  have h0 : k0 ∈ memC us (uA us k0) h := mem_in.mpr ⟨hk, decide_eq_true (List.mem_cons_self ..)⟩
  have nm : (memC us (uA us k0) h).Nodup := List.nodup_range.filter _
  have S0 : Srch (memC us (uA us k0) h) (adjB R.ls) k0 [k0] 0 := ⟨(by simp), fun k hk => by rw [List.mem_singleton.mp hk]; exact h0, fun C hC k hk => by rw [List.mem_singleton.mp hk]; exact hC.1, List.mem_singleton.mpr rfl, Nat.zero_le _, fun x hx => by omega⟩
  obtain ⟨fl, e1, S⟩ := srch_loop hu hl us.length [k0] 0 fuel (by omega) (Nat.lt_of_le_of_lt hl (by decide)) S0
  have p := srch_end (adj_sym R.ls) h0 nm S
  have asc : (itrC (memC us (uA us k0) h) (adjB R.ls) k0 (memC us (uA us k0) h).length).Pairwise (· < ·) := (List.Pairwise.filter _ List.pairwise_lt_range).sublist (itr_sublist h0)
  have srt : gSorted (.list (fl.map natD)) = some (.list ((itrC (memC us (uA us k0) h) (adjB R.ls) k0 (memC us (uA us k0) h).length).map natD)) := by
    rw [cast_list, cast_list, xSortL, sort_rising (p.map _) (List.pairwise_map.mpr (asc.imp fun h => by omega))]
  have e1' : whS fuel WL_chain_of_1 (L_chain_of_1 (rosD R) (.tuple (us.map .int)) (.tuple [.int (uA us k0), .int h])) (.list [natD k0], .int 0) = some (.list (fl.map natD), natD fl.length) := e1
  simp -implicitDefEqProofs only [f_chain_of, u_ix hk, Option.bind_some, e1', srt, xTupL]
end LK
namespace LK
open PySem L2 PySem.Spec DL
theorem rngN' {n : Nat} (h : n ≤ 1000000) : rng1 (natD n) = some ((List.range n).map natD) := rng1_nat h
def chF (R : Ros) (us : List Int) (k0 : Nat) (h : Int) : List Nat := itrC (memC us (uA us k0) h) (adjB R.ls) k0 (memC us (uA us k0) h).length
def exA (us : List Int) (a h : Int) (F : List Nat) (k : Nat) : Int := if k ∈ F then a + h - uA us k else uA us k
def exL (us : List Int) (a h : Int) (F : List Nat) : List Int := (List.range us.length).map (exA us a h F)
theorem exL_len (us : List Int) (a h : Int) (F : List Nat) : (exL us a h F).length = us.length := by rw [exL, List.length_map, List.length_range]
theorem exL_at {us : List Int} {a h : Int} {F : List Nat} {k : Nat} (hk : k < us.length) : uA (exL us a h F) k = exA us a h F k := by
  rw [uA, exL, List.getD_eq_getElem?_getD, List.getElem?_map, List.getElem?_range hk]; rfl
theorem k0_mem {us : List Int} {k0 : Nat} (hk : k0 < us.length) (h : Int) : k0 ∈ memC us (uA us k0) h := mem_in.mpr ⟨hk, decide_eq_true (List.mem_cons_self ..)⟩
theorem ch_sub {R : Ros} {us : List Int} {k0 : Nat} (hk : k0 < us.length) {h : Int} {k : Nat} (hm : k ∈ chF R us k0 h) : k < us.length ∧ uA us k ∈ [uA us k0, h] := by
  have := mem_in.mp ((itr_sublist (adj := adjB R.ls) (k0_mem hk h)).subset hm)
  exact ⟨this.1, of_decide_eq_true this.2⟩
theorem ch_has {R : Ros} {us : List Int} {k0 : Nat} (hk : k0 < us.length) (h : Int) : k0 ∈ chF R us k0 h := itr_has (k0_mem hk h) _
theorem ch_closed {R : Ros} {us : List Int} {k0 : Nat} (hk : k0 < us.length) {h : Int} {k o : Nat} (hm : k ∈ chF R us k0 h) (ho : o < us.length) (hu : uA us o ∈ [uA us k0, h]) (ha : adjB R.ls k o = true) : o ∈ chF R us k0 h :=
  (itr_closed (adj_sym R.ls) (k0_mem hk h)).2 k o hm (mem_in.mpr ⟨ho, decide_eq_true hu⟩) ha
def Sched (R : Ros) (us : List Int) : Prop := ∀ j k, j < us.length → k < us.length → uA us j = uA us k → adjB R.ls j k = false
theorem pair_or {u a h : Int} (m : u ∈ [a, h]) : u = a ∨ u = h := by simpa using m
theorem ex_sched {R : Ros} {us : List Int} (S : Sched R us) {k0 : Nat} (hk : k0 < us.length) (h : Int) : Sched R (exL us (uA us k0) h (chF R us k0 h)) := by
  have key : ∀ j k, j < us.length → k < us.length → j ∈ chF R us k0 h → ¬ k ∈ chF R us k0 h → exA us (uA us k0) h (chF R us k0 h) j = exA us (uA us k0) h (chF R us k0 h) k → adjB R.ls j k = false := fun j k hj hk' mj mk e => by
    rw [exA, exA, if_pos mj, if_neg mk] at e
    have cj := pair_or (ch_sub hk mj).2
    cases hadj : adjB R.ls j k with
    | false => rfl
    | true =>
      refine absurd (ch_closed hk mj hk' ?_ hadj) mk
      rw [← e]
      rcases cj with q | q
      · rw [q, show uA us k0 + h - uA us k0 = h by omega]; simp
      · rw [q, show uA us k0 + h - h = uA us k0 by omega]; simp
  intro j k hj hk' e
  rw [exL_len] at hj hk'
  rw [exL_at hj, exL_at hk'] at e
  by_cases mj : j ∈ chF R us k0 h
  · by_cases mk : k ∈ chF R us k0 h
    · rw [exA, exA, if_pos mj, if_pos mk] at e
      exact S j k hj hk' (by omega)
    · exact key j k hj hk' mj mk e
  · by_cases mk : k ∈ chF R us k0 h
    · rw [adj_sym]; exact key k j hk' hj mk mj e.symm
    · rw [exA, exA, if_neg mj, if_neg mk] at e
      exact S j k hj hk' e
theorem enum_us (us : List Int) : gEn (.tuple (us.map .int)) = some ((List.range us.length).map fun k => .tuple [natD k, .int (uA us k)]) := by
  rw [xEnT, enum_map, zipIdx_range us 0, List.map_map]; rfl
end LK
namespace LK
open PySem L2 PySem.Spec DL
theorem look_pos {i : Int} {k v : PyData} {r : List (PyData × PyData)} (h : isK i k = true) : lookD ((k, v) :: r) i = some v := by
  simp [lookD, List.find?_cons, h]
theorem look_neg {i : Int} {k v : PyData} {r : List (PyData × PyData)} (h : isK i k = false) : lookD ((k, v) :: r) i = lookD r i := by
  simp [lookD, List.find?_cons, h]
theorem exchange_ok {R : Ros} {us : List Int} (hu : us.length = R.ls.length) (hl : us.length ≤ 1000) {k0 : Nat} (hk : k0 < us.length) {h : Int} (hne : h ≠ uA us k0) :
    f_exchange (rosD R) (.tuple (us.map .int)) (natD k0) (.int h) = some (.tuple ((exL us (uA us k0) h (chF R us k0 h)).map .int)) := by
  have c2 : f_chain_of (rosD R) (.tuple (us.map .int)) (natD k0) (.int h) = some (.tuple ((chF R us k0 h).map natD)) := chain_ok hu hl hk h
  have d1 : gDisp2 (.int (uA us k0)) (.int h) (.int h) (.int (uA us k0)) = some (.dict [(.int (uA us k0), .int h), (.int h, .int (uA us k0))]) := by
    show some (PyData.dict (putD (putD [] (uA us k0) (.int h)) h (.int (uA us k0)))) = _
    have e1 : putD [] (uA us k0) (.int h) = [(.int (uA us k0), .int h)] := rfl
    have e2 : ([((.int (uA us k0) : PyData), (.int h : PyData))].any fun p => isK h p.1) = false := by
      show (decide (uA us k0 = h) || false) = false
      rw [decide_eq_false (Ne.symm hne)]; rfl
    rw [e1, putD, e2, if_neg (by simp)]; rfl
  have m1 : mapS ((List.range us.length).map fun k => PyData.tuple [natD k, .int (uA us k)]) (C_exchange_1 (.dict [(.int (uA us k0), .int h), (.int h, .int (uA us k0))]) (.tuple ((chF R us k0 h).map natD))) = some ((List.range us.length).map fun k => .int (exA us (uA us k0) h (chF R us k0 h) k)) := mapS_of fun k _ => by
    have g1 := in_tuple (L := chF R us k0 h) (k := k)
    by_cases mk : k ∈ chF R us k0 h
    · rw [decide_eq_true mk] at g1
      have g2 : gDGet (.dict [(.int (uA us k0), .int h), (.int h, .int (uA us k0))]) (.int (uA us k)) = some (.int (exA us (uA us k0) h (chF R us k0 h) k)) := by
        rw [exA, if_pos mk]
        show lookD _ (uA us k) = _
        rcases pair_or (ch_sub hk mk).2 with q | q
        · rw [look_pos (show isK (uA us k) (.int (uA us k0)) = true from decide_eq_true q.symm), q, show uA us k0 + h - uA us k0 = h by omega]
        · have n1 : isK (uA us k) (.int (uA us k0)) = false := by
            show decide (uA us k0 = uA us k) = false
            rw [q]; exact decide_eq_false (Ne.symm hne)
          rw [look_neg n1, look_pos (show isK (uA us k) (.int h) = true from decide_eq_true q.symm), q, show uA us k0 + h - h = uA us k0 by omega]
      simp -implicitDefEqProofs only [C_exchange_1, un2_ok, Option.bind_some, g1, asB_bool, if_true, g2]
    · rw [decide_eq_false mk] at g1
      simp -implicitDefEqProofs only [C_exchange_1, un2_ok, Option.bind_some, g1, asB_bool, Bool.false_eq_true, if_false, exA, if_neg mk]
  simp -implicitDefEqProofs only [f_exchange, u_ix hk, Option.bind_some, d1, c2, enum_us, m1, xTupL]
  rw [exL, List.map_map]; rfl
end LK
namespace LK
open PySem L2 PySem.Spec DL
def ownOf (ls : List Les) (b : Bool) (i : Int) : List Nat := (List.range ls.length).filter fun k => decide (sideOf b (lsA ls k) = i)
def dgs (R : Ros) (b : Bool) (n : Nat) : List Nat := (List.range n).map fun i => (ownOf R.ls b (i : Nat)).length
theorem ls_range (ls : List Les) : ls = (List.range ls.length).map (lsA ls) := by
  apply List.ext_getElem (by simp)
  intro i h1 h2
  rw [List.getElem_map, List.getElem_range, lsA, List.getD_eq_getElem?_getD, List.getElem?_eq_getElem h1]; rfl
end LK
namespace LK
open PySem L2 PySem.Spec DL
def cnt (R : Ros) (b : Bool) : Int := if b = true then R.G else R.T
theorem cnt_ix {R : Ros} (b : Bool) : gIx (rosD R) (placeD b) = some (.int (cnt R b)) := by cases b <;> simp [rosD, placeD, cnt]
theorem cnt_in {R : Ros} (ok : RosOk 8 16 R) (b : Bool) : 1 ≤ cnt R b ∧ cnt R b ≤ 8 := by
  cases b
  · exact ⟨ok.T0, ok.T1⟩
  · exact ⟨ok.G0, ok.G1⟩
def sideL (R : Ros) (b : Bool) : List Nat := dgs R b (cnt R b).toNat
end LK
namespace LK
open PySem L2 PySem.Spec DL
theorem law_side_ok {R : Ros} (b : Bool) (n : Nat) : mapS ((List.range n).map natD) (C__law_degrees_1 (rosD R) (placeD b)) = some ((dgs R b n).map natD) := by
  have e0 : R.ls.map les = (List.range R.ls.length).map fun k => les (lsA R.ls k) := by
    conv => lhs; rw [ls_range R.ls]
    rw [List.map_map]; rfl
  have m1 : mapS ((List.range n).map natD) (C__law_degrees_1 (rosD R) (placeD b)) = some ((List.range n).map fun i => natD (ownOf R.ls b (i : Nat)).length) := mapS_of fun i _ => by
    have f1 : filS (R.ls.map les) (C__law_degrees_2 (placeD b) (natD i)) = some ((ownOf R.ls b (i : Nat)).map fun k => les (lsA R.ls k)) := by
      rw [e0]
      exact filS_of fun k _ => by
        have e : gEq (.int (sideOf b (lsA R.ls k))) (natD i) = some (.bool (decide (sideOf b (lsA R.ls k) = ((i : Nat) : Int)))) := xEq
        simp -implicitDefEqProofs only [C__law_degrees_2, Option.bind_some, ix_side, e, asB_bool]
        split <;> rfl
    simp -implicitDefEqProofs only [C__law_degrees_1, ros_ix, Option.bind_some, xSeqT, f1, xLenL, List.length_map]
    rfl
  rw [m1, dgs, List.map_map]; rfl
theorem law_degrees_ok {R : Ros} (ok : RosOk 8 16 R) : f__law_degrees (rosD R) = some (.list [.list ((sideL R false).map natD), .list ((sideL R true).map natD)]) := by
  have st : ∀ (b : Bool) (acc : List PyData), acc.length ≤ 10 → L__law_degrees_1 (rosD R) (placeD b) (.list acc) = some (.list (acc ++ [.list ((sideL R b).map natD)])) := fun b acc ha => by
    have c := cnt_in ok b
    have ap : gApp (.list acc) (.list ((sideL R b).map natD)) = some (.list (acc ++ [.list ((sideL R b).map natD)])) := xApp (by omega)
    simp -implicitDefEqProofs only [L__law_degrees_1, cnt_ix, Option.bind_some, rng1_ok (show 0 ≤ cnt R b by omega) (show cnt R b ≤ 1000000 by omega), law_side_ok]
    show (gApp (.list acc) (.list ((sideL R b).map natD))).bind _ = _
    rw [ap]; rfl
  have r2 : rng1 (.int 2) = some [placeD false, placeD true] := rfl
  have f1 : foldS [placeD false, placeD true] (L__law_degrees_1 (rosD R)) (.list []) = some (.list [.list ((sideL R false).map natD), .list ((sideL R true).map natD)]) := by
    show (L__law_degrees_1 (rosD R) (placeD false) (.list [])).bind _ = _
    rw [st false [] (by decide)]
    show (L__law_degrees_1 (rosD R) (placeD true) (.list [.list ((sideL R false).map natD)])).bind _ = _
    rw [st true [_] (by simp)]; rfl
  simp -implicitDefEqProofs only [f__law_degrees, r2, Option.bind_some, f1]
end LK
namespace LK
open PySem L2 PySem.Spec DL
def allD (R : Ros) : List Nat := sideL R false ++ sideL R true
def degN (R : Ros) : Nat := mxN (allD R)
theorem sideL_len {R : Ros} (ok : RosOk 8 16 R) (b : Bool) : 0 < (sideL R b).length := by
  have := cnt_in ok b
  rw [sideL, dgs, List.length_map, List.length_range]; omega
theorem allD_ne {R : Ros} (ok : RosOk 8 16 R) : allD R ≠ [] := fun e => by
  have := sideL_len ok false
  have h := congrArg List.length e
  rw [allD, List.length_append, List.length_nil] at h
  omega
theorem sideL_len8 {R : Ros} (ok : RosOk 8 16 R) (b : Bool) : (sideL R b).length ≤ 8 := by
  have := cnt_in ok b
  rw [sideL, dgs, List.length_map, List.length_range]; omega
theorem own_lenR {R : Ros} (b : Bool) (i : Int) : (ownOf R.ls b i).length ≤ R.ls.length := by
  have := List.length_filter_le (fun k => decide (sideOf b (lsA R.ls k) = i)) (List.range R.ls.length)
  rw [List.length_range] at this; exact this
end LK
namespace LK
open PySem L2 PySem.Spec DL
theorem law_degree_ok {R : Ros} (ok : RosOk 8 16 R) : f__law_degree (rosD R) = some (natD (degN R)) := by
  have l0 := sideL_len8 ok false
  have l1 := sideL_len8 ok true
  have a1 : gAdd (.list ((sideL R false).map natD)) (.list ((sideL R true).map natD)) = some (.list ((allD R).map natD)) := by
    rw [xAddL (by simp; omega), allD, List.map_append]
  simp -implicitDefEqProofs only [Option.bind_some, asB_bool, if_true, Bool.false_eq_true, if_false, xTruB, Bool.not_true, Bool.not_false, un2_ok, un3_ok, un2L_ok, xSeqL, xSeqT, xTupL, scInt, grd_true, thenS_nx, thenS_rt, xPrt, f__law_degree, law_degrees_ok ok, a1, xMaxNL (allD_ne ok)]
  rfl
end LK
namespace LK
open PySem L2 PySem.Spec DL
@[simp] theorem xStrB {b : Bool} : gStr (.bool b) = some (.str (if b = true then "True" else "False")) := rfl
end LK
namespace LK
open PySem L2 PySem.Spec DL
end LK
namespace LK
open PySem L2 PySem.Spec DL
theorem law_rivals_are {R : Ros} {k o : Nat} (hk : k < R.ls.length) (ho : o < R.ls.length) : f__law_are_rivals (rosD R) (natD k) (natD o) = some (.bool (adjB R.ls k o)) := by
  obtain ⟨e1, e2, e3⟩ := adj_core hk ho
  have a0 : ∀ p : Les, gIx (les p) (.int 0) = some (.int p.1) := fun p => by simp [les]
  have a1 : ∀ p : Les, gIx (les p) (.int 1) = some (.int p.2) := fun p => by simp [les]
  unfold adjB
  cases hc : decide (k ≠ o) with
  | false => simp [f__law_are_rivals, ros_ix, e1, e2, e3, hc]
  | true =>
    by_cases h : (lsA R.ls k).1 = (lsA R.ls o).1
    · simp [f__law_are_rivals, ros_ix, e1, e2, e3, hc, a0, a1, h]
    · simp [f__law_are_rivals, ros_ix, e1, e2, e3, hc, a0, a1, h]
end LK
namespace LK
open PySem L2 PySem.Spec DL
theorem sched_ok {R : Ros} {us : List Int} (hu : us.length = R.ls.length) (hl : us.length ≤ 1000) (hr : ∀ u ∈ us, 0 ≤ u ∧ u ≤ 1000000) (S : Sched R us) : f__law_is_schedule (rosD R) (.tuple (us.map .int)) = some (.bool true) := by
  have e1 : gLen (.tuple (us.map .int)) = some (.int (us.length : Nat)) := by simp
  have e2 : gLen (.tuple (R.ls.map les)) = some (.int (R.ls.length : Nat)) := by simp
  have ne : gNe (.int (us.length : Nat)) (.int (R.ls.length : Nat)) = some (.bool false) := by rw [hu, xNe, decide_eq_true rfl]; rfl
  have f1 : filS (us.map .int) C__law_is_schedule_1 = some ((us.filter fun _ => false).map .int) := filS_of fun u hm => by
    have := hr u hm
    have w : f__law_whole (.int u) = some (.bool true) := by simp [f__law_whole, PyData.isInt, PyData.isBool]
    have l1 : gLe (.int 0) (.int u) = some (.bool true) := by rw [xLe, decide_eq_true this.1]
    have p1 : gPow (.int 10) (.int 6) = some (.int (10 ^ 6)) := xPow (by decide) (by decide) (by decide)
    have l2 : gLe (.int u) (.int (10 ^ 6)) = some (.bool true) := by
      rw [xLe, decide_eq_true (show u ≤ 10 ^ 6 by have : (10 : Int) ^ 6 = 1000000 := by decide
                                                  omega)]
    simp -implicitDefEqProofs only [C__law_is_schedule_1, w, Option.bind_some, xTruB, Bool.not_true, Bool.false_eq_true, if_false, l1, ifB_bool, if_true, p1, l2, asB_bool]
  have n1 : gNe (.list ((us.filter fun _ => false).map .int)) (.list []) = some (.bool false) := by rw [xNeNilL]; simp
  have f2 : forS ((List.range us.length).map natD) (L__law_is_schedule_1 (rosD R) (.tuple (us.map .int))) () = some (.nx, ()) := by
    rw [forS_map]
    refine forS_all fun k hk => ?_
    have hk := List.mem_range.mp hk
    have g1 : filS ((List.range k).map natD) (C__law_is_schedule_2 (rosD R) (.tuple (us.map .int)) (natD k)) = some (((List.range k).filter fun _ => false).map natD) := filS_of fun j hj => by
      have hj := List.mem_range.mp hj
      have x1 := u_ix (us := us) (k := j) (by omega)
      have x2 := u_ix (us := us) (k := k) hk
      by_cases e : uA us j = uA us k
      · have rv := law_rivals_are (R := R) (k := j) (o := k) (by omega) (by omega)
        rw [S j k (by omega) hk e] at rv
        simp -implicitDefEqProofs only [C__law_is_schedule_2, x1, x2, Option.bind_some, xEq, decide_eq_true e, asB_bool, if_true, rv, xTruB, Bool.false_eq_true, if_false]
      · simp -implicitDefEqProofs only [C__law_is_schedule_2, x1, x2, Option.bind_some, xEq, decide_eq_false e, asB_bool, Bool.false_eq_true, if_false]
    have n2 : gNe (.list (((List.range k).filter fun _ => false).map natD)) (.list []) = some (.bool false) := by rw [xNeNilL]; simp
    simp -implicitDefEqProofs only [L__law_is_schedule_1, rngN' (show k ≤ 1000000 by omega), Option.bind_some, g1, n2, asB_bool, Bool.false_eq_true, if_false]
  simp -implicitDefEqProofs only [f__law_is_schedule, xIsa, PyData.isTuple, Option.bind_some, gTruth, PyData.truthy, Bool.not_true, Bool.false_eq_true, if_false, e1, ros_ix, e2, ne, asB_bool, xSeqT, f1, n1, rng1_nat (show us.length ≤ 1000000 by omega), f2, thenS_nx]
end LK
namespace LK
open PySem L2 PySem.Spec DL
theorem adj_iff {ls : List Les} {a b : Nat} : adjB ls a b = true ↔ a ≠ b ∧ ((lsA ls a).1 = (lsA ls b).1 ∨ (lsA ls a).2 = (lsA ls b).2) := by
  unfold adjB
  simp only [Bool.and_eq_true, Bool.or_eq_true, decide_eq_true_iff]
theorem sched_ne {R : Ros} {us : List Int} (S : Sched R us) {j k : Nat} (hj : j < us.length) (hk : k < us.length) (ha : adjB R.ls j k = true) : uA us j ≠ uA us k := fun e => by
  rw [S j k hj hk e] at ha; cases ha
theorem sched_one {R : Ros} {us : List Int} (S : Sched R us) {j k : Nat} (hj : j < us.length) (hk : k < us.length) (e : uA us j = uA us k) (s : (lsA R.ls j).1 = (lsA R.ls k).1 ∨ (lsA R.ls j).2 = (lsA R.ls k).2) : j = k := by
  by_cases c : j = k
  · exact c
  · have := S j k hj hk e
    rw [adj_iff.mpr ⟨c, s⟩] at this; cases this
theorem ch_low {R : Ros} {us : List Int} {k0 : Nat} {h : Int} {C : Nat → Prop} (hC : ClosedC (memC us (uA us k0) h) (adjB R.ls) k0 C) : ∀ k ∈ chF R us k0 h, C k := itr_sub (adj_sym R.ls) hC _
inductive KP (R : Ros) (us : List Int) (k0 : Nat) (h : Int) : Nat → Prop
  | base : KP R us k0 h k0
  | tea {k o : Nat} : KP R us k0 h k → uA us k = uA us k0 → o < us.length → uA us o = h → (lsA R.ls o).1 = (lsA R.ls k).1 → KP R us k0 h o
  | grp {k o : Nat} : KP R us k0 h k → uA us k = h → o < us.length → uA us o = uA us k0 → (lsA R.ls o).2 = (lsA R.ls k).2 → KP R us k0 h o
theorem kp_lt {R : Ros} {us : List Int} {k0 : Nat} (hk : k0 < us.length) {h : Int} {k : Nat} (p : KP R us k0 h k) : k < us.length := by
  cases p with
  | base => exact hk
  | tea _ _ h1 _ _ => exact h1
  | grp _ _ h1 _ _ => exact h1
theorem ch_kp {R : Ros} {us : List Int} (S : Sched R us) {k0 : Nat} (hk : k0 < us.length) {h : Int} (fr : ∀ k, k < us.length → (lsA R.ls k).2 = (lsA R.ls k0).2 → uA us k ≠ h) : ∀ k ∈ chF R us k0 h, KP R us k0 h k := by
  refine ch_low ⟨.base, fun k o p ho ha => ?_⟩
  obtain ⟨ol, om⟩ := mem_in.mp ho
  have om := pair_or (of_decide_eq_true om)
  have kl := kp_lt hk p
  have ne := sched_ne S kl ol ha
  have sd := (adj_iff.mp ha).2
  have km : uA us k = uA us k0 ∨ uA us k = h := by
    cases p with
    | base => exact .inl rfl
    | tea _ _ _ e _ => exact .inr e
    | grp _ _ _ e _ => exact .inl e
  rcases km with ka | kh
  · have oh : uA us o = h := om.resolve_left fun e => ne (by rw [ka, e])
    rcases sd with s | s
    · exact .tea p ka ol oh s.symm
    · cases p with
      | base => exact absurd oh (fr o ol s.symm)
      | tea _ _ _ e _ => exact absurd (e.trans oh.symm) ne
      | @grp j _ pj jh _ _ sg =>
        have : j = o := sched_one S (kp_lt hk pj) ol (by rw [jh, oh]) (.inr (by rw [← sg, s]))
        rw [← this]; exact pj
  · have oa : uA us o = uA us k0 := om.resolve_right fun e => ne (by rw [kh, e])
    rcases sd with s | s
    · cases p with
      | base => exact absurd oa.symm ne
      | @tea j _ pj ja _ _ sg =>
        have : j = o := sched_one S (kp_lt hk pj) ol (by rw [ja, oa]) (.inl (by rw [← sg, s]))
        rw [← this]; exact pj
      | grp _ _ _ e _ => exact absurd (e.trans oa.symm) ne
    · exact .grp p kh ol oa s.symm
theorem ex_free {R : Ros} {us : List Int} (S : Sched R us) {k0 : Nat} (hk : k0 < us.length) {h : Int} (fr : ∀ k, k < us.length → (lsA R.ls k).2 = (lsA R.ls k0).2 → uA us k ≠ h) {t : Int} (ft : ∀ k, k < us.length → (lsA R.ls k).1 = t → uA us k ≠ uA us k0) (hne : h ≠ uA us k0) :
    ∀ k, k < us.length → ((lsA R.ls k).1 = t ∨ (lsA R.ls k).2 = (lsA R.ls k0).2) → uA (exL us (uA us k0) h (chF R us k0 h)) k ≠ uA us k0 := by
  intro k hk' s e
  rw [exL_at hk', exA] at e
  by_cases m : k ∈ chF R us k0 h
  · rw [if_pos m] at e
    have kh : uA us k = h := by omega
    rcases s with s | s
    · have p := ch_kp S hk fr k m
      cases p with
      | base => exact hne kh.symm
      | @tea j _ pj ja _ _ sg => exact ft j (kp_lt hk pj) (by rw [← sg, s]) ja
      | grp _ _ _ e2 _ => exact hne (kh.symm.trans e2)
    · exact fr k hk' s kh
  · rw [if_neg m] at e
    rcases s with s | s
    · exact ft k hk' s e
    · have : k = k0 := sched_one S hk' hk e (.inr s)
      rw [this] at m
      exact m (ch_has hk h)
inductive Grow (adj : Nat → Nat → Bool) (s0 : Nat) : List Nat → Prop
  | one : Grow adj s0 [s0]
  | add {g : List Nat} {x y : Nat} : Grow adj s0 g → x ∉ g → y ∈ g → adj y x = true → Grow adj s0 (x :: g)
theorem Grow.nd {adj : Nat → Nat → Bool} {s0 : Nat} {g : List Nat} (h : Grow adj s0 g) : g.Nodup := by
  induction h with
  | one => simp
  | add _ hx _ _ ih => exact List.nodup_cons.mpr ⟨hx, ih⟩
theorem Grow.has {adj : Nat → Nat → Bool} {s0 : Nat} {g : List Nat} (h : Grow adj s0 g) : s0 ∈ g := by
  induction h with
  | one => simp
  | add _ _ _ _ ih => exact List.mem_cons_of_mem _ ih
end LK
namespace LK
open PySem L2 PySem.Spec DL
theorem own_mem {ls : List Les} {b : Bool} {p : Int} {k : Nat} : k ∈ ownOf ls b p ↔ k < ls.length ∧ sideOf b (lsA ls k) = p := by
  rw [ownOf, List.mem_filter, List.mem_range, decide_eq_true_iff]
def freeL (R : Ros) (us : List Int) (H : Nat) (b : Bool) (p : Int) : List Nat := (List.range H).filter fun h => !decide (((h : Nat) : Int) ∈ (ownOf R.ls b p).map (uA us))
theorem free_mem {R : Ros} {us : List Int} {H : Nat} {b : Bool} {p : Int} {h : Nat} : h ∈ freeL R us H b p ↔ h < H ∧ ∀ k, k < R.ls.length → sideOf b (lsA R.ls k) = p → uA us k ≠ (h : Nat) := by
  rw [freeL, List.mem_filter, List.mem_range, Bool.not_eq_true', decide_eq_false_iff_not, List.mem_map]
  constructor
  · rintro ⟨h1, h2⟩
    exact ⟨h1, fun k hk hs e => h2 ⟨k, own_mem.mpr ⟨hk, hs⟩, e⟩⟩
  · rintro ⟨h1, h2⟩
    exact ⟨h1, fun ⟨k, hk, e⟩ => h2 k (own_mem.mp hk).1 (own_mem.mp hk).2 e⟩
def takN (R : Ros) (us : List Int) (H : Nat) (t g : Int) : Nat := (((ownOf R.ls true g).filter fun k => decide (uA us k = (((freeL R us H false t).headD 0 : Nat) : Int))).headD 0)
def insL (R : Ros) (us : List Int) (H : Nat) (t g : Int) : List Int :=
  if ((freeL R us H false t).filter fun h => decide (h ∈ freeL R us H true g)) = [] then
    exL us (uA us (takN R us H t g)) (((freeL R us H true g).headD 0 : Nat) : Int) (chF R us (takN R us H t g) (((freeL R us H true g).headD 0 : Nat) : Int)) ++ [(((freeL R us H false t).headD 0 : Nat) : Int)]
  else us ++ [((((freeL R us H false t).filter fun h => decide (h ∈ freeL R us H true g)).headD 0 : Nat) : Int)]
theorem head_mem {l : List Nat} (h : l ≠ []) : l.headD 0 ∈ l := by
  cases l with
  | nil => exact absurd rfl h
  | cons a l => exact List.mem_cons_self ..
theorem tak_at {R : Ros} {us : List Int} {H : Nat} {t g : Int} (hA : freeL R us H false t ≠ []) (hC : ((freeL R us H false t).filter fun h => decide (h ∈ freeL R us H true g)) = []) :
    ((ownOf R.ls true g).filter fun k => decide (uA us k = (((freeL R us H false t).headD 0 : Nat) : Int))) ≠ [] ∧ (takN R us H t g) < R.ls.length ∧ (lsA R.ls (takN R us H t g)).2 = g ∧ uA us (takN R us H t g) = (((freeL R us H false t).headD 0 : Nat) : Int) ∧ (freeL R us H false t).headD 0 ∉ freeL R us H true g := by
  have ha := head_mem hA
  have nb : (freeL R us H false t).headD 0 ∉ freeL R us H true g := fun z => by
    have : (freeL R us H false t).headD 0 ∈ (freeL R us H false t).filter fun h => decide (h ∈ freeL R us H true g) := List.mem_filter.mpr ⟨ha, decide_eq_true z⟩
    rw [hC] at this; cases this
  have ne : ((ownOf R.ls true g).filter fun k => decide (uA us k = (((freeL R us H false t).headD 0 : Nat) : Int))) ≠ [] := fun e => nb (free_mem.mpr ⟨(free_mem.mp ha).1, fun k hk hs he => by
    have : k ∈ (ownOf R.ls true g).filter fun k => decide (uA us k = (((freeL R us H false t).headD 0 : Nat) : Int)) := List.mem_filter.mpr ⟨own_mem.mpr ⟨hk, hs⟩, decide_eq_true he⟩
    rw [e] at this; cases this⟩)
  have hm := head_mem ne
  obtain ⟨h1, h2⟩ := List.mem_filter.mp hm
  exact ⟨ne, (own_mem.mp h1).1, (own_mem.mp h1).2, of_decide_eq_true h2, nb⟩
theorem lsA_app {ls : List Les} {x : Les} {k : Nat} : lsA (ls ++ [x]) k = if k < ls.length then lsA ls k else if k = ls.length then x else (0, 0) := by
  unfold lsA
  rw [List.getD_eq_getElem?_getD, List.getD_eq_getElem?_getD]
  by_cases h : k < ls.length
  · rw [if_pos h, List.getElem?_append_left h]
  · rw [if_neg h, List.getElem?_append_right (by omega)]
    by_cases e : k = ls.length
    · rw [if_pos e, e]; simp
    · rw [if_neg e, List.getElem?_eq_none (by simp; omega)]; rfl
theorem uA_app {us : List Int} {x : Int} {k : Nat} : uA (us ++ [x]) k = if k < us.length then uA us k else if k = us.length then x else 0 := by
  unfold uA
  rw [List.getD_eq_getElem?_getD, List.getD_eq_getElem?_getD]
  by_cases h : k < us.length
  · rw [if_pos h, List.getElem?_append_left h]
  · rw [if_neg h, List.getElem?_append_right (by omega)]
    by_cases e : k = us.length
    · rw [if_pos e, e]; simp
    · rw [if_neg e, List.getElem?_eq_none (by simp; omega)]; rfl
theorem sched_snoc {R : Ros} {xs : List Int} (hx : xs.length = R.ls.length) (S : Sched R xs) {t g c : Int} (fr : ∀ k, k < R.ls.length → ((lsA R.ls k).1 = t ∨ (lsA R.ls k).2 = g) → uA xs k ≠ c) : Sched ⟨R.T, R.G, R.ls ++ [(t, g)]⟩ (xs ++ [c]) := by
  have key : ∀ j k, j < R.ls.length → k = R.ls.length → uA (xs ++ [c]) j = uA (xs ++ [c]) k → adjB (R.ls ++ [(t, g)]) j k = false := fun j k hj hk e => by
    cases h : adjB (R.ls ++ [(t, g)]) j k with
    | false => rfl
    | true =>
      obtain ⟨h1, h2⟩ := adj_iff.mp h
      rw [lsA_app, if_pos hj, lsA_app, if_neg (by omega), if_pos hk] at h2
      rw [uA_app, if_pos (by omega), uA_app, if_neg (by omega), if_pos (by omega)] at e
      exact absurd e (fr j hj h2)
  intro j k hj hk e
  rw [List.length_append, List.length_singleton] at hj hk
  show adjB (R.ls ++ [(t, g)]) j k = false
  by_cases cj : j < R.ls.length
  · by_cases ck : k < R.ls.length
    · rw [uA_app, if_pos (by omega), uA_app, if_pos (by omega)] at e
      have := S j k (by omega) (by omega) e
      unfold adjB at this ⊢
      rw [lsA_app, if_pos cj, lsA_app, if_pos ck]; exact this
    · exact key j k cj (by omega) e
  · by_cases ck : k < R.ls.length
    · rw [adj_sym]; exact key k j ck (by omega) e.symm
    · have : j = k := by omega
      subst this; unfold adjB; simp
structure SchH (R : Ros) (H : Nat) (us : List Int) : Prop where
  len : us.length = R.ls.length
  ok : Sched R us
  rng : ∀ u ∈ us, 0 ≤ u ∧ u < (H : Nat)
theorem exL_rng {us : List Int} {a h : Int} {F : List Nat} {H : Nat} (hr : ∀ u ∈ us, 0 ≤ u ∧ u < (H : Nat)) (ha : 0 ≤ a ∧ a < (H : Nat)) (hh : 0 ≤ h ∧ h < (H : Nat)) (hF : ∀ k ∈ F, uA us k ∈ [a, h]) : ∀ u ∈ exL us a h F, 0 ≤ u ∧ u < (H : Nat) := fun u hu => by
  obtain ⟨k, hk, rfl⟩ := List.mem_map.mp hu
  have hk := List.mem_range.mp hk
  rw [exA]
  by_cases m : k ∈ F
  · rw [if_pos m]
    rcases pair_or (hF k m) with q | q <;> rw [q] <;> omega
  · rw [if_neg m]
    refine hr _ ?_
    rw [uA, List.getD_eq_getElem?_getD, List.getElem?_eq_getElem hk]
    exact List.getElem_mem hk
theorem uA_in' {us : List Int} {k : Nat} (hk : k < us.length) : uA us k ∈ us := by
  rw [uA, List.getD_eq_getElem?_getD, List.getElem?_eq_getElem hk]
  exact List.getElem_mem hk
theorem insert_good {R : Ros} {us : List Int} {H : Nat} (S : SchH R H us) {t g : Int} (hA : freeL R us H false t ≠ []) (hB : freeL R us H true g ≠ []) : SchH ⟨R.T, R.G, R.ls ++ [(t, g)]⟩ H (insL R us H t g) := by
  have hu := S.len
  have snoc : ∀ (xs : List Int) (c : Nat), c < H → (∀ u ∈ xs, 0 ≤ u ∧ u < (H : Nat)) → ∀ u ∈ xs ++ [((c : Nat) : Int)], 0 ≤ u ∧ u < (H : Nat) := fun xs c hc hx u hm => by
    rcases List.mem_append.mp hm with z | z
    · exact hx u z
    · rw [List.mem_singleton.mp z]; omega
  have ll : ∀ xs : List Int, xs.length = R.ls.length → ∀ c : Int, (xs ++ [c]).length = (R.ls ++ [(t, g)]).length := fun xs h c => by simp [h]
  unfold insL
  by_cases hC : ((freeL R us H false t).filter fun h => decide (h ∈ freeL R us H true g)) = []
  · rw [if_pos hC]
    obtain ⟨ne, tl, tg, tu, nb⟩ := tak_at hA hC
    have ha := free_mem.mp (head_mem hA)
    have hb := free_mem.mp (head_mem hB)
    have hne : (((freeL R us H true g).headD 0 : Nat) : Int) ≠ uA us (takN R us H t g) := fun e => nb (by
      rw [tu] at e
      have : (freeL R us H false t).headD 0 = (freeL R us H true g).headD 0 := by omega
      rw [this]; exact head_mem hB)
    have fr := ex_free S.ok (k0 := takN R us H t g) (by omega) (h := (((freeL R us H true g).headD 0 : Nat) : Int)) (fun k hk hs => hb.2 k (by omega) (by rw [tg] at hs; exact hs)) (t := t) (fun k hk hs => by rw [tu]; exact ha.2 k (by omega) hs) hne
    rw [tg] at fr
    rw [← tu]
    have xl := exL_len us (uA us (takN R us H t g)) (((freeL R us H true g).headD 0 : Nat) : Int) (chF R us (takN R us H t g) (((freeL R us H true g).headD 0 : Nat) : Int))
    refine ⟨ll _ (by rw [xl, hu]) _, sched_snoc (by rw [xl, hu]) (ex_sched S.ok (by omega) _) fun k hk hs => fr k (by omega) hs, ?_⟩
    rw [tu]
    refine snoc _ _ ha.1 ?_
    rw [← tu]
    exact exL_rng S.rng (S.rng _ (uA_in' (by omega))) (by omega) fun k hm => (ch_sub (by omega) hm).2
  · rw [if_neg hC]
    obtain ⟨m1, m2⟩ := List.mem_filter.mp (head_mem hC)
    have m1 := free_mem.mp m1
    have m2 := free_mem.mp (of_decide_eq_true m2)
    refine ⟨ll _ hu _, sched_snoc hu S.ok fun k hk hs => ?_, snoc _ _ m1.1 S.rng⟩
    rcases hs with s | s
    · exact m1.2 k hk s
    · exact m2.2 k hk s
theorem free_some {R : Ros} {us : List Int} {H : Nat} {b : Bool} {p : Int} (h : (ownOf R.ls b p).length < H) : freeL R us H b p ≠ [] := fun e => by
  have := filter_left (((ownOf R.ls b p).map (uA us))) (l := (List.range H).map fun h => ((h : Nat) : Int)) (List.pairwise_map.mpr (List.nodup_range.imp fun h => by omega))
  rw [List.length_map, List.length_range, List.length_map, List.filter_map, List.length_map] at this
  have e2 : ((List.range H).filter ((fun x => !decide (x ∈ (ownOf R.ls b p).map (uA us))) ∘ fun h => ((h : Nat) : Int))) = freeL R us H b p := rfl
  rw [e2, e] at this
  simp at this; omega
theorem sched_nil {T G : Int} {H : Nat} : SchH ⟨T, G, []⟩ H [] := ⟨rfl, fun j k hj => by simp at hj, fun u hu => by cases hu⟩
end LK
namespace LK
open PySem L2 PySem.Spec DL
theorem own_deg {R : Ros} (ok : RosOk 8 16 R) {i : Nat} (hi : i < R.ls.length) (b : Bool) : (ownOf R.ls b (sideOf b (lsA R.ls i))).length ≤ degN R := by
  have hm : lsA R.ls i ∈ R.ls := by
    rw [lsA, List.getD_eq_getElem?_getD, List.getElem?_eq_getElem hi]; exact List.getElem_mem hi
  have := ok.ok _ hm
  have hp : 0 ≤ sideOf b (lsA R.ls i) ∧ sideOf b (lsA R.ls i) < cnt R b := by
    cases b
    · exact ⟨this.1, this.2.1⟩
    · exact ⟨this.2.2.1, this.2.2.2⟩
  have e : (ownOf R.ls b (sideOf b (lsA R.ls i))).length ∈ sideL R b := List.mem_map.mpr ⟨(sideOf b (lsA R.ls i)).toNat, List.mem_range.mpr (by omega), by rw [Int.toNat_of_nonneg hp.1]⟩
  refine mx_ge (List.mem_append.mpr ?_)
  cases b
  · exact .inl e
  · exact .inr e
end LK
namespace LK
open PySem L2 PySem.Spec DL
theorem own_okI {R : Ros} (b : Bool) (p : Int) : f_lessons_of (rosD R) (.str (if b = true then "group" else "teacher")) (.int p) = some (.list ((ownOf R.ls b p).map natD)) := by
  have e1 : gEn (.tuple (R.ls.map les)) = some ((List.range R.ls.length).map fun k => .tuple [natD k, les (lsA R.ls k)]) := by
    rw [xEnT, enum_map, zipIdx_range R.ls (0, 0), List.map_map]; rfl
  have e2 : filS ((List.range R.ls.length).map fun k => PyData.tuple [natD k, les (lsA R.ls k)]) (C_lessons_of_1 (.int p) (placeD b)) = some ((ownOf R.ls b p).map natD) := filS_of fun k _ => by
    have e : gEq (.int (sideOf b (lsA R.ls k))) (.int p) = some (.bool (decide (sideOf b (lsA R.ls k) = p))) := xEq
    simp -implicitDefEqProofs only [C_lessons_of_1, un2_ok, Option.bind_some, ix_side, e, asB_bool]
    split <;> rfl
  have e3 : (gEq (.str (if b = true then "group" else "teacher")) (.str "teacher")).bind (fun v1 => (asB v1).bind fun v2 => if v2 = true then some (PyData.int 0) else some (.int 1)) = some (placeD b) := by
    cases b
    · show (gEq (.str "teacher") (.str "teacher")).bind _ = _
      rw [xEqS]; rfl
    · show (gEq (.str "group") (.str "teacher")).bind _ = _
      rw [xEqS, show (("group" : Str) == ("teacher" : Str)) = false by decide +kernel]; rfl
  obtain ⟨v1, h1, h2⟩ := oBs e3
  obtain ⟨v2, h3, h4⟩ := oBs h2
  simp -implicitDefEqProofs only [f_lessons_of, h1, Option.bind_some, h3, h4, ros_ix, e1, e2]
theorem free_ok {R : Ros} {us : List Int} (hu : us.length = R.ls.length) {H : Nat} (hH : H ≤ 1000) (b : Bool) (p : Int) : f_free_hours (rosD R) (.tuple (us.map .int)) (.int (H : Nat)) (.str (if b = true then "group" else "teacher")) (.int p) = some (.list ((freeL R us H b p).map natD)) := by
  have m1 : mapS ((ownOf R.ls b p).map natD) (C_free_hours_1 (.tuple (us.map .int))) = some (((ownOf R.ls b p).map (uA us)).map .int) := by
    rw [List.map_map]
    exact mapS_of fun k hk => by
      have := (own_mem.mp hk).1
      simp -implicitDefEqProofs only [Option.bind_some, asB_bool, if_true, Bool.false_eq_true, if_false, xTruB, Bool.not_true, Bool.not_false, un2_ok, un3_ok, un2L_ok, xSeqL, xSeqT, xTupL, scInt, grd_true, thenS_nx, thenS_rt, xPrt, C_free_hours_1, u_ix (us := us) (k := k) (by omega)]
      rfl
  have f1 : filS ((List.range H).map natD) (C_free_hours_2 (.list (((ownOf R.ls b p).map (uA us)).map .int))) = some ((freeL R us H b p).map natD) := filS_of fun h _ => by
    have e : gNotIn (natD h) (.list (((ownOf R.ls b p).map (uA us)).map .int)) = some (.bool (!decide (((h : Nat) : Int) ∈ (ownOf R.ls b p).map (uA us)))) := xNotInL
    simp -implicitDefEqProofs only [Option.bind_some, asB_bool, if_true, Bool.false_eq_true, if_false, xTruB, Bool.not_true, Bool.not_false, un2_ok, un3_ok, un2L_ok, xSeqL, xSeqT, xTupL, scInt, grd_true, thenS_nx, thenS_rt, xPrt, C_free_hours_2, e]
    split <;> rfl
  simp -implicitDefEqProofs only [Option.bind_some, asB_bool, if_true, Bool.false_eq_true, if_false, xTruB, Bool.not_true, Bool.not_false, un2_ok, un3_ok, un2L_ok, xSeqL, xSeqT, xTupL, scInt, grd_true, thenS_nx, thenS_rt, xPrt, f_free_hours, own_okI b p, m1, rng1_nat (show H ≤ 1000000 by omega), f1]
theorem head_ix {l : List Nat} (h : l ≠ []) : gIx (.list (l.map natD)) (.int 0) = some (natD (l.headD 0)) := by
  cases l with
  | nil => exact absurd rfl h
  | cons a l => exact at0
end LK
namespace LK
open PySem L2 PySem.Spec DL
theorem insert_ok {R : Ros} {us : List Int} (hu : us.length = R.ls.length) (hl : R.ls.length < 16) {H : Nat} (hH : H ≤ 1000) {t g : Int} (hA : freeL R us H false t ≠ []) (hB : freeL R us H true g ≠ []) :
    f_insert_lesson (rosD R) (.tuple (us.map .int)) (.int (H : Nat)) (.int t) (.int g) = some (.tuple ((insL R us H t g).map .int)) := by
  have g1 : gGe (.int (R.ls.length : Nat)) (.int 16) = some (.bool false) := by rw [xGe, decide_eq_false (by omega)]
  have o1 : f_free_hours (rosD R) (.tuple (us.map .int)) (.int (H : Nat)) (.str "teacher") (.int t) = some (.list ((freeL R us H false t).map natD)) := free_ok hu hH false t
  have o2 : f_free_hours (rosD R) (.tuple (us.map .int)) (.int (H : Nat)) (.str "group") (.int g) = some (.list ((freeL R us H true g).map natD)) := free_ok hu hH true g
  have nl : ∀ l : List Nat, l ≠ [] → gEq (.list (l.map natD)) (.list []) = some (.bool false) := fun l h => by
    rw [xEqNilL]
    cases l with
    | nil => exact absurd rfl h
    | cons => rfl
  have f1 : filS ((freeL R us H false t).map natD) (C_insert_lesson_1 (.list ((freeL R us H true g).map natD))) = some (((freeL R us H false t).filter fun h => decide (h ∈ freeL R us H true g)).map natD) := filS_of fun h _ => by
    simp -implicitDefEqProofs only [Option.bind_some, asB_bool, if_true, Bool.false_eq_true, if_false, xTruB, Bool.not_true, Bool.not_false, un2_ok, un3_ok, un2L_ok, xSeqL, xSeqT, xTupL, scInt, grd_true, thenS_nx, thenS_rt, xPrt, C_insert_lesson_1, in_list]
    split <;> rfl
  have n1 : gNe (.list (((freeL R us H false t).filter fun h => decide (h ∈ freeL R us H true g)).map natD)) (.list []) = some (.bool (!(((freeL R us H false t).filter fun h => decide (h ∈ freeL R us H true g)).map natD).isEmpty)) := xNeNilL
  have lu : (us.map PyData.int).length + 1 ≤ 1000000 := by rw [List.length_map]; omega
  unfold insL
  by_cases hC : ((freeL R us H false t).filter fun h => decide (h ∈ freeL R us H true g)) = []
  · have n2 : gNe (.list (((freeL R us H false t).filter fun h => decide (h ∈ freeL R us H true g)).map natD)) (.list []) = some (.bool false) := by rw [n1, hC]; rfl
    obtain ⟨ne, tl, tg, tu, nb⟩ := tak_at hA hC
    have f2 : filS ((ownOf R.ls true g).map natD) (C_insert_lesson_2 (.tuple (us.map .int)) (natD ((freeL R us H false t).headD 0))) = some (((ownOf R.ls true g).filter fun k => decide (uA us k = (((freeL R us H false t).headD 0 : Nat) : Int))).map natD) := filS_of fun k hk => by
      have := (own_mem.mp hk).1
      have e : gEq (.int (uA us k)) (natD ((freeL R us H false t).headD 0)) = some (.bool (decide (uA us k = (((freeL R us H false t).headD 0 : Nat) : Int)))) := xEq
      simp -implicitDefEqProofs only [Option.bind_some, asB_bool, if_true, Bool.false_eq_true, if_false, xTruB, Bool.not_true, Bool.not_false, un2_ok, un3_ok, un2L_ok, xSeqL, xSeqT, xTupL, scInt, grd_true, thenS_nx, thenS_rt, xPrt, C_insert_lesson_2, u_ix (us := us) (k := k) (by omega), e]
      split <;> rfl
    have hx : f_exchange (rosD R) (.tuple (us.map .int)) (natD (takN R us H t g)) (natD ((freeL R us H true g).headD 0)) = _ := exchange_ok hu (by omega) (k0 := takN R us H t g) (by omega) (h := (((freeL R us H true g).headD 0 : Nat) : Int)) fun e => nb (by
      rw [tu] at e
      have : (freeL R us H false t).headD 0 = (freeL R us H true g).headD 0 := by omega
      rw [this]; exact head_mem hB)
    have h0 := head_ix ne
    have o3 : f_lessons_of (rosD R) (.str "group") (.int g) = some (.list ((ownOf R.ls true g).map natD)) := own_okI true g
    have a1 := xAddT (xs := (exL us (uA us (takN R us H t g)) (((freeL R us H true g).headD 0 : Nat) : Int) (chF R us (takN R us H t g) (((freeL R us H true g).headD 0 : Nat) : Int))).map PyData.int) (ys := [natD ((freeL R us H false t).headD 0)]) (by rw [List.length_map, exL_len, List.length_singleton]; omega)
    have h0' : gIx (.list (((ownOf R.ls true g).filter fun k => decide (uA us k = (((freeL R us H false t).headD 0 : Nat) : Int))).map natD)) (.int 0) = some (natD (takN R us H t g)) := h0
    rw [if_pos hC, List.map_append]
    simp -implicitDefEqProofs only [Option.bind_some, asB_bool, if_true, Bool.false_eq_true, if_false, xTruB, Bool.not_true, Bool.not_false, un2_ok, un3_ok, un2L_ok, xSeqL, xSeqT, xTupL, scInt, grd_true, thenS_nx, thenS_rt, xPrt, f_insert_lesson, ros_ix, xLenT, List.length_map, g1, o1, nl _ hA, o2, nl _ hB, f1, n2, head_ix hA, o3, f2, h0', head_ix hB, hx, a1]
    rfl
  · have n2 : gNe (.list (((freeL R us H false t).filter fun h => decide (h ∈ freeL R us H true g)).map natD)) (.list []) = some (.bool true) := by
      rw [n1]
      cases hq : ((freeL R us H false t).filter fun h => decide (h ∈ freeL R us H true g)) with
      | nil => exact absurd hq hC
      | cons => rfl
    have a1 := xAddT (xs := us.map PyData.int) (ys := [natD (((freeL R us H false t).filter fun h => decide (h ∈ freeL R us H true g)).headD 0)]) lu
    rw [if_neg hC, List.map_append]
    simp -implicitDefEqProofs only [Option.bind_some, asB_bool, if_true, Bool.false_eq_true, if_false, xTruB, Bool.not_true, Bool.not_false, un2_ok, un3_ok, un2L_ok, xSeqL, xSeqT, xTupL, scInt, grd_true, thenS_nx, thenS_rt, xPrt, f_insert_lesson, ros_ix, xLenT, List.length_map, g1, o1, nl _ hA, o2, nl _ hB, f1, n2, head_ix hC, a1]
    rfl
end LK
namespace LK
open PySem L2 PySem.Spec DL
theorem insertX_ok {R : Ros} {us : List Int} (hu : us.length = R.ls.length) (hl : R.ls.length < 16) {H : Nat} (hH : H ≤ 1000) {t g : Int} (hA : freeL R us H false t ≠ []) (hB : freeL R us H true g ≠ []) :
    f_insert_lesson_x (rosD R) (.tuple (us.map .int)) (.int (H : Nat)) (.int t) (.int g) = some (.list [.tuple ((insL R us H t g).map .int)]) := by
  have g1 : gGe (.int (R.ls.length : Nat)) (.int 16) = some (.bool false) := by rw [xGe, decide_eq_false (by omega)]
  have o1 : f_free_hours (rosD R) (.tuple (us.map .int)) (.int (H : Nat)) (.str "teacher") (.int t) = some (.list ((freeL R us H false t).map natD)) := free_ok hu hH false t
  have o2 : f_free_hours (rosD R) (.tuple (us.map .int)) (.int (H : Nat)) (.str "group") (.int g) = some (.list ((freeL R us H true g).map natD)) := free_ok hu hH true g
  have nl : ∀ l : List Nat, l ≠ [] → gEq (.list (l.map natD)) (.list []) = some (.bool false) := fun l h => by
    rw [xEqNilL]
    cases l with
    | nil => exact absurd rfl h
    | cons => rfl
  have f1 : filS ((freeL R us H false t).map natD) (C_insert_lesson_x_1 (.list ((freeL R us H true g).map natD))) = some (((freeL R us H false t).filter fun h => decide (h ∈ freeL R us H true g)).map natD) := filS_of fun h _ => by
    simp -implicitDefEqProofs only [Option.bind_some, asB_bool, if_true, Bool.false_eq_true, if_false, xTruB, Bool.not_true, Bool.not_false, un2_ok, un3_ok, un2L_ok, xSeqL, xSeqT, xTupL, scInt, grd_true, thenS_nx, thenS_rt, xPrt, C_insert_lesson_x_1, in_list]
    split <;> rfl
  have n1 : gNe (.list (((freeL R us H false t).filter fun h => decide (h ∈ freeL R us H true g)).map natD)) (.list []) = some (.bool (!(((freeL R us H false t).filter fun h => decide (h ∈ freeL R us H true g)).map natD).isEmpty)) := xNeNilL
  have lu : (us.map PyData.int).length + 1 ≤ 1000000 := by rw [List.length_map]; omega
  unfold insL
  by_cases hC : ((freeL R us H false t).filter fun h => decide (h ∈ freeL R us H true g)) = []
  · have n2 : gNe (.list (((freeL R us H false t).filter fun h => decide (h ∈ freeL R us H true g)).map natD)) (.list []) = some (.bool false) := by rw [n1, hC]; rfl
    obtain ⟨ne, tl, tg, tu, nb⟩ := tak_at hA hC
    have f2 : filS ((ownOf R.ls true g).map natD) (C_insert_lesson_x_2 (.tuple (us.map .int)) (natD ((freeL R us H false t).headD 0))) = some (((ownOf R.ls true g).filter fun k => decide (uA us k = (((freeL R us H false t).headD 0 : Nat) : Int))).map natD) := filS_of fun k hk => by
      have := (own_mem.mp hk).1
      have e : gEq (.int (uA us k)) (natD ((freeL R us H false t).headD 0)) = some (.bool (decide (uA us k = (((freeL R us H false t).headD 0 : Nat) : Int)))) := xEq
      simp -implicitDefEqProofs only [Option.bind_some, asB_bool, if_true, Bool.false_eq_true, if_false, xTruB, Bool.not_true, Bool.not_false, un2_ok, un3_ok, un2L_ok, xSeqL, xSeqT, xTupL, scInt, grd_true, thenS_nx, thenS_rt, xPrt, C_insert_lesson_x_2, u_ix (us := us) (k := k) (by omega), e]
      split <;> rfl
    have hx : f_exchange (rosD R) (.tuple (us.map .int)) (natD (takN R us H t g)) (natD ((freeL R us H true g).headD 0)) = _ := exchange_ok hu (by omega) (k0 := takN R us H t g) (by omega) (h := (((freeL R us H true g).headD 0 : Nat) : Int)) fun e => nb (by
      rw [tu] at e
      have : (freeL R us H false t).headD 0 = (freeL R us H true g).headD 0 := by omega
      rw [this]; exact head_mem hB)
    have h0 := head_ix ne
    have o3 : f_lessons_of (rosD R) (.str "group") (.int g) = some (.list ((ownOf R.ls true g).map natD)) := own_okI true g
    have a1 := xAddT (xs := (exL us (uA us (takN R us H t g)) (((freeL R us H true g).headD 0 : Nat) : Int) (chF R us (takN R us H t g) (((freeL R us H true g).headD 0 : Nat) : Int))).map PyData.int) (ys := [natD ((freeL R us H false t).headD 0)]) (by rw [List.length_map, exL_len, List.length_singleton]; omega)
    have h0' : gIx (.list (((ownOf R.ls true g).filter fun k => decide (uA us k = (((freeL R us H false t).headD 0 : Nat) : Int))).map natD)) (.int 0) = some (natD (takN R us H t g)) := h0
    rw [if_pos hC, List.map_append]
    simp -implicitDefEqProofs only [Option.bind_some, asB_bool, if_true, Bool.false_eq_true, if_false, xTruB, Bool.not_true, Bool.not_false, un2_ok, un3_ok, un2L_ok, xSeqL, xSeqT, xTupL, scInt, grd_true, thenS_nx, thenS_rt, xPrt, f_insert_lesson_x, ros_ix, xLenT, List.length_map, g1, o1, nl _ hA, o2, nl _ hB, f1, n2, head_ix hA, o3, f2, h0', head_ix hB, hx, a1]
    rfl
  · have n2 : gNe (.list (((freeL R us H false t).filter fun h => decide (h ∈ freeL R us H true g)).map natD)) (.list []) = some (.bool true) := by
      rw [n1]
      cases hq : ((freeL R us H false t).filter fun h => decide (h ∈ freeL R us H true g)) with
      | nil => exact absurd hq hC
      | cons => rfl
    have a1 := xAddT (xs := us.map PyData.int) (ys := [natD (((freeL R us H false t).filter fun h => decide (h ∈ freeL R us H true g)).headD 0)]) lu
    rw [if_neg hC, List.map_append]
    simp -implicitDefEqProofs only [Option.bind_some, asB_bool, if_true, Bool.false_eq_true, if_false, xTruB, Bool.not_true, Bool.not_false, un2_ok, un3_ok, un2L_ok, xSeqL, xSeqT, xTupL, scInt, grd_true, thenS_nx, thenS_rt, xPrt, f_insert_lesson_x, ros_ix, xLenT, List.length_map, g1, o1, nl _ hA, o2, nl _ hB, f1, n2, head_ix hC, a1]
    rfl
theorem insertX_no {R : Ros} {us : List Int} (hu : us.length = R.ls.length) (hl : R.ls.length < 16) {H : Nat} (hH : H ≤ 1000) {t : Int} {g : PyData} (hA : freeL R us H false t = []) : f_insert_lesson_x (rosD R) (.tuple (us.map .int)) (.int (H : Nat)) (.int t) g = some (.tuple [.str "NoFreeHour", .int t, .str "teacher"]) := by
  have g1 : gGe (.int (R.ls.length : Nat)) (.int 16) = some (.bool false) := by rw [xGe, decide_eq_false (by omega)]
  have o1 : f_free_hours (rosD R) (.tuple (us.map .int)) (.int (H : Nat)) (.str "teacher") (.int t) = some (.list ((freeL R us H false t).map natD)) := free_ok hu hH false t
  rw [hA] at o1
  have n1 : gEq (.list (([] : List Nat).map natD)) (.list []) = some (.bool true) := xEqNilL
  have z : gRz "NoFreeHour" (.tuple [.str "teacher", .int t]) = some (.tuple [.str "NoFreeHour", .int t, .str "teacher"]) := rfl
  simp -implicitDefEqProofs only [Option.bind_some, asB_bool, if_true, Bool.false_eq_true, if_false, xTruB, Bool.not_true, Bool.not_false, un2_ok, un3_ok, un2L_ok, xSeqL, xSeqT, xTupL, scInt, grd_true, thenS_nx, thenS_rt, xPrt, f_insert_lesson_x, ros_ix, xLenT, List.length_map, g1, o1, n1, z]
theorem insertX_no2 {R : Ros} {us : List Int} (hu : us.length = R.ls.length) (hl : R.ls.length < 16) {H : Nat} (hH : H ≤ 1000) {t g : Int} (hA : freeL R us H false t ≠ []) (hB : freeL R us H true g = []) : f_insert_lesson_x (rosD R) (.tuple (us.map .int)) (.int (H : Nat)) (.int t) (.int g) = some (.tuple [.str "NoFreeHour", .int g, .str "group"]) := by
  have g1 : gGe (.int (R.ls.length : Nat)) (.int 16) = some (.bool false) := by rw [xGe, decide_eq_false (by omega)]
  have o1 : f_free_hours (rosD R) (.tuple (us.map .int)) (.int (H : Nat)) (.str "teacher") (.int t) = some (.list ((freeL R us H false t).map natD)) := free_ok hu hH false t
  have o2 : f_free_hours (rosD R) (.tuple (us.map .int)) (.int (H : Nat)) (.str "group") (.int g) = some (.list ((freeL R us H true g).map natD)) := free_ok hu hH true g
  rw [hB] at o2
  have n0 : gEq (.list ((freeL R us H false t).map natD)) (.list []) = some (.bool false) := by
    rw [xEqNilL]
    cases hq : freeL R us H false t with
    | nil => exact absurd hq hA
    | cons => rfl
  have n1 : gEq (.list (([] : List Nat).map natD)) (.list []) = some (.bool true) := xEqNilL
  have z : gRz "NoFreeHour" (.tuple [.str "group", .int g]) = some (.tuple [.str "NoFreeHour", .int g, .str "group"]) := rfl
  simp -implicitDefEqProofs only [Option.bind_some, asB_bool, if_true, Bool.false_eq_true, if_false, xTruB, Bool.not_true, Bool.not_false, un2_ok, un3_ok, un2L_ok, xSeqL, xSeqT, xTupL, scInt, grd_true, thenS_nx, thenS_rt, xPrt, f_insert_lesson_x, ros_ix, xLenT, List.length_map, g1, o1, n0, o2, n1, z]
end LK
namespace LK
open PySem L2 PySem.Spec DL
theorem deg_at {R : Ros} (ok : RosOk 8 16 R) : ∃ (b : Bool) (p : Nat), ((p : Nat) : Int) < cnt R b ∧ degN R = (ownOf R.ls b (p : Nat)).length := by
  rcases List.mem_append.mp (mx_mem (allD_ne ok)) with z | z
  · obtain ⟨i, hi, e⟩ := List.mem_map.mp z
    have := List.mem_range.mp hi
    exact ⟨false, i, by omega, e.symm⟩
  · obtain ⟨i, hi, e⟩ := List.mem_map.mp z
    have := List.mem_range.mp hi
    exact ⟨true, i, by omega, e.symm⟩
end LK
namespace LK
open PySem L2 PySem.Spec DL
def cntP (ls : List Les) (b : Bool) (p : Int) : Nat := (ls.filter fun x => decide (sideOf b x = p)).length
theorem own_cnt (ls : List Les) (b : Bool) (p : Int) : (ownOf ls b p).length = cntP ls b p := by
  have e := ls_range ls
  unfold cntP
  conv => rhs; rw [e]
  rw [List.filter_map, List.length_map]; rfl
theorem perm_les {R : Ros} {ks : List Nat} (hp : ks.Perm (List.range R.ls.length)) : (ks.map (lsA R.ls)).Perm R.ls := by
  have := hp.map (lsA R.ls)
  rw [← ls_range] at this
  exact this
theorem perm_cnt {l l' : List Les} (hp : l.Perm l') (b : Bool) (p : Int) : cntP l b p = cntP l' b p := (hp.filter _).length_eq
theorem pre_cnt {l1 l2 : List Les} {x : Les} {b : Bool} : cntP l1 b (sideOf b x) < cntP (l1 ++ x :: l2) b (sideOf b x) := by
  unfold cntP
  rw [List.filter_append, List.length_append, List.filter_cons_of_pos (by simp)]
  simp
theorem moves_ok {us vs : List Int} (hl : us.length ≤ vs.length) (h16 : us.length ≤ 16) {a h : Int} (ha : 0 ≤ a ∧ a < 64) (hh : 0 ≤ h ∧ h < 64) (hm : ∀ k, k < us.length → uA us k = uA vs k ∨ (uA us k = a ∧ uA vs k = h) ∨ (uA us k = h ∧ uA vs k = a)) :
    ∃ l v : _, filS (zipD (us.map .int) (vs.map .int)) C__law_filled_2 = some l ∧ gSortSetP (.list l) = some (.list v) ∧ v.length ≤ 1 := by
  have z : zipD (us.map .int) (vs.map .int) = (List.range us.length).map fun k => PyData.tuple [.int (uA us k), .int (uA vs k)] := by
    apply List.ext_getElem
    · rw [zipD_len]; simp; omega
    · intro i h1 h2
      have h3 : i < us.length := by simpa using h2
      have h4 : i < vs.length := by omega
      obtain ⟨x, y, e1, e2, e3⟩ := zipD_get _ _ i _ (List.getElem?_eq_getElem h1)
      rw [e3]
      simp [h3] at e1
      simp [h4] at e2
      simp [uA, List.getD_eq_getElem?_getD, List.getElem?_eq_getElem h3, List.getElem?_eq_getElem h4, ← e1, ← e2]
  have pw : ∀ x y : Int, x ≠ y → gSorted (.list [.int x, .int y]) = some (.list [.int (min x y), .int (max x y)]) := fun x y ne => by
    have e : sortL ([x, y].map .int) = [min x y, max x y].map .int := sort_rising (by
      by_cases c : x ≤ y
      · rw [Int.min_eq_left c, Int.max_eq_right c]
      · rw [Int.min_eq_right (by omega), Int.max_eq_left (by omega)]; exact List.Perm.swap ..) (by simp; omega)
    have := xSortL [x, y]
    rw [e] at this
    exact this
  have f : filS ((List.range us.length).map fun k => PyData.tuple [.int (uA us k), .int (uA vs k)]) C__law_filled_2 = some (((List.range us.length).filter fun k => decide (uA us k ≠ uA vs k)).map fun k => PyData.tuple [.int (min (uA us k) (uA vs k)), .int (max (uA us k) (uA vs k))]) := filS_of fun k hk => by
    have e : gNe (.int (uA us k)) (.int (uA vs k)) = some (.bool (decide (uA us k ≠ uA vs k))) := by
      rw [xNe]; by_cases c : uA us k = uA vs k <;> simp [c]
    have u : un2 (.tuple [.int (uA us k), .int (uA vs k)]) = some (.int (uA us k), .int (uA vs k)) := rfl
    by_cases c : uA us k ≠ uA vs k
    · simp -implicitDefEqProofs only [C__law_filled_2, u, Option.bind_some, e, asB_bool, decide_eq_true c, if_true, pw _ _ c, xTupL]
    · simp -implicitDefEqProofs only [C__law_filled_2, u, Option.bind_some, e, asB_bool, decide_eq_false c, Bool.false_eq_true, if_false]
  rw [z, f]
  have mk : ∀ k ∈ (List.range us.length).filter fun k => decide (uA us k ≠ uA vs k), min (uA us k) (uA vs k) = min a h ∧ max (uA us k) (uA vs k) = max a h := fun k hk => by
    obtain ⟨h1, h2⟩ := List.mem_filter.mp hk
    have h2 := of_decide_eq_true h2
    rcases hm k (List.mem_range.mp h1) with q | ⟨q1, q2⟩ | ⟨q1, q2⟩
    · exact absurd q h2
    · rw [q1, q2]; exact ⟨rfl, rfl⟩
    · rw [q1, q2]; omega
  have ps : ∀ l : List Nat, (∀ k ∈ l, min (uA us k) (uA vs k) = min a h ∧ max (uA us k) (uA vs k) = max a h) → pairsOf (l.map fun k => PyData.tuple [.int (min (uA us k) (uA vs k)), .int (max (uA us k) (uA vs k))]) = some (l.map fun _ => (min a h, max a h)) := by
    intro l
    induction l with
    | nil => intro _; rfl
    | cons k l ih =>
      intro hk
      obtain ⟨e1, e2⟩ := hk k (List.mem_cons_self ..)
      have b : 0 ≤ min a h ∧ min a h < 64 ∧ 0 ≤ max a h ∧ max a h < 64 := by omega
      have p1 : pairOf (PyData.tuple [.int (min a h), .int (max a h)]) = some (min a h, max a h) := by
        show (if 0 ≤ min a h ∧ min a h < 64 ∧ 0 ≤ max a h ∧ max a h < 64 then some (min a h, max a h) else none) = _
        rw [if_pos b]
      show (pairOf (PyData.tuple [.int (min (uA us k) (uA vs k)), .int (max (uA us k) (uA vs k))])).bind _ = _
      rw [e1, e2, p1, Option.bind_some, ih fun k hk' => hk k (List.mem_cons_of_mem _ hk')]; rfl
  have fl : (((List.range us.length).filter fun k => decide (uA us k ≠ uA vs k))).length ≤ 16 := Nat.le_trans (List.length_filter_le _ _) (by simpa using h16)
  refine ⟨_, ((sortSet ((((List.range us.length).filter fun k => decide (uA us k ≠ uA vs k)).map fun _ => (min a h, max a h)).map pcode)).map fun c => PyData.tuple [.int (c / 64), .int (c % 64)]), rfl, ?_, ?_⟩
  · show (pairsOf _).bind _ = _
    rw [ps _ mk, Option.bind_some, if_pos (by simp only [List.length_map]; omega)]
  · rw [List.length_map, List.map_map]
    have all : ∀ x ∈ sortSet (((List.range us.length).filter fun k => decide (uA us k ≠ uA vs k)).map (pcode ∘ fun _ => (min a h, max a h))), x = pcode (min a h, max a h) := fun x hx => by
      obtain ⟨_, _, e⟩ := List.mem_map.mp (sortSet_mem.mp hx)
      exact e.symm
    have lt := sortSet_lt (((List.range us.length).filter fun k => decide (uA us k ≠ uA vs k)).map (pcode ∘ fun _ => (min a h, max a h)))
    revert all lt
    generalize sortSet (((List.range us.length).filter fun k => decide (uA us k ≠ uA vs k)).map (pcode ∘ fun _ => (min a h, max a h))) = q
    intro all lt
    match q with
    | [] => simp
    | [_] => simp
    | x :: y :: r =>
      have h1 := all x (by simp)
      have h2 := all y (by simp)
      have h3 := (List.pairwise_cons.mp lt).1 y (by simp)
      omega
theorem ins_moves {R : Ros} {us : List Int} {H : Nat} (hu : us.length = R.ls.length) (hl : R.ls.length ≤ 16) (hH : H ≤ 17) (hr : ∀ u ∈ us, 0 ≤ u ∧ u < (H : Nat)) {t g : Int} (hA : freeL R us H false t ≠ []) (hB : freeL R us H true g ≠ []) :
    ∃ l v : _, filS (zipD (us.map .int) ((insL R us H t g).map .int)) C__law_filled_2 = some l ∧ gSortSetP (.list l) = some (.list v) ∧ v.length ≤ 1 := by
  by_cases hC : ((freeL R us H false t).filter fun h => decide (h ∈ freeL R us H true g)) = []
  · have e : insL R us H t g = exL us (uA us (takN R us H t g)) (((freeL R us H true g).headD 0 : Nat) : Int) (chF R us (takN R us H t g) (((freeL R us H true g).headD 0 : Nat) : Int)) ++ [(((freeL R us H false t).headD 0 : Nat) : Int)] := if_pos hC
    rw [e]
    obtain ⟨_, tl, _, _, _⟩ := tak_at hA hC
    have tl' : takN R us H t g < us.length := by omega
    have fB := (free_mem.mp (head_mem hB)).1
    have r1 := hr _ (uA_in' tl')
    refine moves_ok (by simp [exL_len]) (by omega) (a := uA us (takN R us H t g)) (h := (((freeL R us H true g).headD 0 : Nat) : Int)) (by omega) (by omega) fun k hk => ?_
    rw [uA_app, exL_len, if_pos hk, exL_at hk, exA]
    by_cases m : k ∈ chF R us (takN R us H t g) (((freeL R us H true g).headD 0 : Nat) : Int)
    · rw [if_pos m]
      rcases pair_or (ch_sub tl' m).2 with q | q
      · right; left; exact ⟨q, by omega⟩
      · right; right; exact ⟨q, by omega⟩
    · rw [if_neg m]; exact .inl rfl
  · have e : insL R us H t g = us ++ [((((freeL R us H false t).filter fun h => decide (h ∈ freeL R us H true g)).headD 0 : Nat) : Int)] := if_neg hC
    rw [e]
    exact moves_ok (by simp) (by omega) (a := 0) (h := 0) (by omega) (by omega) fun k hk => by rw [uA_app, if_pos hk]; exact .inl rfl
theorem les_ix {R : Ros} {k : Nat} (hk : k < R.ls.length) : gIx (.tuple (R.ls.map les)) (natD k) = some (les (lsA R.ls k)) ∧ gIx (les (lsA R.ls k)) (.int 0) = some (.int (lsA R.ls k).1) ∧ gIx (les (lsA R.ls k)) (.int 1) = some (.int (lsA R.ls k).2) :=
  ⟨by
    show atI (R.ls.map les) ((k : Nat) : Int) = _
    rw [at_nat (by simpa using hk)]
    simp [lsA, List.getD_eq_getElem?_getD, hk], rfl, rfl⟩
theorem snoc_D {T G : Int} {ls : List Les} {x : Les} (hl : ls.length ≤ 100) : gAdd (.tuple (ls.map les)) (.tuple [les x]) = some (.tuple ((ls ++ [x]).map les)) := by
  rw [xAddT (by simp; omega), List.map_append]; rfl
theorem fill_loop {R : Ros} (ok : RosOk 8 16 R) {H : Nat} (hd : degN R ≤ H) (hH : H ≤ 17) : ∀ (ks ps : List Nat) (us : List Int), (ps ++ ks).Perm (List.range R.ls.length) → SchH ⟨R.T, R.G, ps.map (lsA R.ls)⟩ H us →
    ∃ s, forS (ks.map natD) (L__law_filled_1 (.int (H : Nat)) (.int R.T) (.int R.G) (.tuple (R.ls.map les))) (.tuple (us.map .int), .tuple ((ps.map (lsA R.ls)).map les)) = some (.nx, s)
  | [], _, _, _, _ => ⟨_, rfl⟩
  | k :: ks, ps, us, hp, S => by
    have hk : k < R.ls.length := by simpa using hp.mem_iff.mp (List.mem_append_right _ (List.mem_cons_self ..))
    have hlen : ps.length + (ks.length + 1) = R.ls.length := by simpa using hp.length_eq
    have l16 := ok.len
    obtain ⟨i1, i2, i3⟩ := les_ix hk
    have free : ∀ b : Bool, freeL ⟨R.T, R.G, ps.map (lsA R.ls)⟩ us H b (sideOf b (lsA R.ls k)) ≠ [] := fun b => free_some (by
      rw [own_cnt]
      have c1 := pre_cnt (l1 := ps.map (lsA R.ls)) (l2 := ks.map (lsA R.ls)) (x := lsA R.ls k) (b := b)
      rw [show ps.map (lsA R.ls) ++ lsA R.ls k :: ks.map (lsA R.ls) = (ps ++ k :: ks).map (lsA R.ls) by simp, perm_cnt (perm_les hp)] at c1
      have c2 := own_cnt R.ls b (sideOf b (lsA R.ls k))
      have := own_deg ok hk b
      show cntP (ps.map (lsA R.ls)) b (sideOf b (lsA R.ls k)) < H
      omega)
    have fA := free false
    have fB := free true
    have hu : us.length = ps.length := by have := S.len; simpa using this
    have ins := insert_ok (R := ⟨R.T, R.G, ps.map (lsA R.ls)⟩) (us := us) (H := H) S.len (by simp; omega) (by omega) (t := (lsA R.ls k).1) (g := (lsA R.ls k).2) fA fB
    have good := insert_good S (t := (lsA R.ls k).1) (g := (lsA R.ls k).2) fA fB
    have l1 : (insL ⟨R.T, R.G, ps.map (lsA R.ls)⟩ us H (lsA R.ls k).1 (lsA R.ls k).2).length = ps.length + 1 := by have := good.len; simpa using this
    have sc := sched_ok (R := ⟨R.T, R.G, ps.map (lsA R.ls) ++ [lsA R.ls k]⟩) (us := insL ⟨R.T, R.G, ps.map (lsA R.ls)⟩ us H (lsA R.ls k).1 (lsA R.ls k).2) good.len (by omega) (fun u hm => by have := good.rng u hm; omega) good.ok
    have rd1 : rosD ⟨R.T, R.G, ps.map (lsA R.ls)⟩ = .tuple [.int R.T, .int R.G, .tuple ((ps.map (lsA R.ls)).map les)] := rfl
    have rd2 : rosD ⟨R.T, R.G, ps.map (lsA R.ls) ++ [lsA R.ls k]⟩ = .tuple [.int R.T, .int R.G, .tuple ((ps.map (lsA R.ls) ++ [lsA R.ls k]).map les)] := rfl
    rw [rd1] at ins
    rw [rd2] at sc
    have ap := snoc_D (T := R.T) (G := R.G) (ls := ps.map (lsA R.ls)) (x := lsA R.ls k) (by simp; omega)
    have f1 : filS ((insL ⟨R.T, R.G, ps.map (lsA R.ls)⟩ us H (lsA R.ls k).1 (lsA R.ls k).2).map .int) (C__law_filled_1 (.int (H : Nat))) = some (((insL ⟨R.T, R.G, ps.map (lsA R.ls)⟩ us H (lsA R.ls k).1 (lsA R.ls k).2).filter fun _ => false).map .int) := filS_of fun u hm => by
      have := good.rng u hm
      have g : gGe (.int u) (.int (H : Nat)) = some (.bool false) := by rw [xGe, decide_eq_false (by omega)]
      simp -implicitDefEqProofs only [C__law_filled_1, g, Option.bind_some, asB_bool, Bool.false_eq_true, if_false]
    have n1 : gNe (.list (((insL ⟨R.T, R.G, ps.map (lsA R.ls)⟩ us H (lsA R.ls k).1 (lsA R.ls k).2).filter fun _ => false).map .int)) (.list []) = some (.bool false) := by rw [xNeNilL]; simp
    obtain ⟨l, v, m1, m2, m3⟩ := ins_moves (R := ⟨R.T, R.G, ps.map (lsA R.ls)⟩) (us := us) (H := H) S.len (by simp; omega) hH S.rng (t := (lsA R.ls k).1) (g := (lsA R.ls k).2) fA fB
    have g1 : gGt (.int (v.length : Nat)) (.int 1) = some (.bool false) := by rw [xGt, decide_eq_false (by omega)]
    have zp : zipS (.tuple (us.map .int)) (.tuple ((insL ⟨R.T, R.G, ps.map (lsA R.ls)⟩ us H (lsA R.ls k).1 (lsA R.ls k).2).map .int)) = some (zipD (us.map .int) ((insL ⟨R.T, R.G, ps.map (lsA R.ls)⟩ us H (lsA R.ls k).1 (lsA R.ls k).2).map .int)) := rfl
    have step : L__law_filled_1 (.int (H : Nat)) (.int R.T) (.int R.G) (.tuple (R.ls.map les)) (natD k) (.tuple (us.map .int), .tuple ((ps.map (lsA R.ls)).map les)) = some (.nx, (.tuple ((insL ⟨R.T, R.G, ps.map (lsA R.ls)⟩ us H (lsA R.ls k).1 (lsA R.ls k).2).map .int), .tuple ((ps.map (lsA R.ls) ++ [lsA R.ls k]).map les))) := by
      simp -implicitDefEqProofs only [L__law_filled_1, i1, i2, i3, Option.bind_some, ins, ap, sc, xTruB, Bool.not_true, Bool.false_eq_true, if_false, xSeqT, f1, n1, asB_bool, zp, m1, m2, xLenL, g1]
    obtain ⟨s, e⟩ := fill_loop ok hd hH ks (ps ++ [k]) (insL ⟨R.T, R.G, ps.map (lsA R.ls)⟩ us H (lsA R.ls k).1 (lsA R.ls k).2) (by simpa using hp) (by rw [List.map_append]; exact good)
    refine ⟨s, ?_⟩
    show (L__law_filled_1 _ _ _ _ (natD k) _).bind _ = _
    rw [step, Option.bind_some]
    rw [List.map_append] at e
    exact e
theorem filled_ok {R : Ros} (ok : RosOk 8 16 R) {H : Nat} (hd : degN R ≤ H) (hH : H ≤ 17) {ks : List Nat} (hp : ks.Perm (List.range R.ls.length)) : f__law_filled (rosD R) (.list (ks.map natD)) (.int (H : Nat)) = some (.bool true) := by
  obtain ⟨s, e⟩ := fill_loop ok hd hH ks [] [] hp sched_nil
  have e : forS (ks.map natD) (L__law_filled_1 (.int (H : Nat)) (.int R.T) (.int R.G) (.tuple (R.ls.map les))) (.tuple [], .tuple []) = some (.nx, s) := e
  have u3 : un3 (rosD R) = some (.int R.T, .int R.G, .tuple (R.ls.map les)) := rfl
  have u2 : un2 (.tuple [(.tuple []), (.tuple [])]) = some (PyData.tuple [], PyData.tuple []) := rfl
  simp -implicitDefEqProofs only [Option.bind_some, asB_bool, if_true, Bool.false_eq_true, if_false, xTruB, Bool.not_true, Bool.not_false, un2_ok, un3_ok, un2L_ok, xSeqL, xSeqT, xTupL, scInt, grd_true, thenS_nx, thenS_rt, xPrt, f__law_filled, u3, u2, e]
theorem nodup_leG {α : Type} [DecidableEq α] {l r : List α} (nd : l.Nodup) (sub : ∀ x ∈ l, x ∈ r) : l.length ≤ r.length := by
  induction l generalizing r with
  | nil => exact Nat.zero_le _
  | cons a l ih =>
    have nd := List.nodup_cons.mp nd
    have := ih (r := r.erase a) nd.2 fun x hx => (List.mem_erase_of_ne (fun e => nd.1 (by rw [← e]; exact hx))).mpr (sub x (List.mem_cons_of_mem _ hx))
    have ha := sub a (List.mem_cons_self ..)
    rw [List.length_erase_of_mem ha] at this
    have := List.length_pos_of_mem ha
    rw [List.length_cons]; omega
theorem own_hours {R : Ros} {H : Nat} {us : List Int} (S : SchH R H us) (b : Bool) (p : Int) : ((ownOf R.ls b p).map (uA us)).Nodup ∧ ∀ u ∈ (ownOf R.ls b p).map (uA us), u ∈ (List.range H).map fun i => ((i : Nat) : Int) := by
  refine ⟨?_, fun u hm => ?_⟩
  · show List.Pairwise (· ≠ ·) _
    rw [List.pairwise_map]
    refine List.Pairwise.imp_of_mem (R := fun a b => a ≠ b) ?_ (List.Pairwise.filter _ List.nodup_range)
    intro j k hj hk ne e
    refine ne ?_
    obtain ⟨h1, h2⟩ := own_mem.mp hj
    obtain ⟨h3, h4⟩ := own_mem.mp hk
    by_cases q : j = k
    · exact q
    · exfalso
      have a := S.ok j k (by rw [S.len]; exact h1) (by rw [S.len]; exact h3) e
      have : adjB R.ls j k = true := by
        unfold adjB
        cases b <;> simp [sideOf] at h2 h4 <;> simp [q, h2, h4]
      rw [this] at a; cases a
  · obtain ⟨k, hk, rfl⟩ := List.mem_map.mp hm
    have r := S.rng _ (uA_in' (by rw [S.len]; exact (own_mem.mp hk).1))
    exact List.mem_map.mpr ⟨(uA us k).toNat, List.mem_range.mpr (by omega), by omega⟩
theorem own_le {R : Ros} {H : Nat} {us : List Int} (S : SchH R H us) (b : Bool) (p : Int) : (ownOf R.ls b p).length ≤ H := by
  obtain ⟨h1, h2⟩ := own_hours S b p
  have := nodup_leG h1 h2
  simpa using this
theorem own_full {R : Ros} {H : Nat} {us : List Int} (S : SchH R H us) {b : Bool} {p : Int} (h : freeL R us H b p = []) : (ownOf R.ls b p).length = H := by
  refine Nat.le_antisymm (own_le S b p) ?_
  have sub : ∀ u ∈ (List.range H).map fun i => ((i : Nat) : Int), u ∈ (ownOf R.ls b p).map (uA us) := fun u hu => by
    obtain ⟨i, hi, rfl⟩ := List.mem_map.mp hu
    have hi := List.mem_range.mp hi
    have no : i ∉ freeL R us H b p := by rw [h]; exact fun z => nomatch z
    have : ¬ (i < H ∧ ∀ k, k < R.ls.length → sideOf b (lsA R.ls k) = p → uA us k ≠ (i : Nat)) := fun z => no (free_mem.mpr z)
    have : ∃ k, k < R.ls.length ∧ sideOf b (lsA R.ls k) = p ∧ uA us k = (i : Nat) := Classical.byContradiction fun z => this ⟨hi, fun k h1 h2 h3 => z ⟨k, h1, h2, h3⟩⟩
    obtain ⟨k, h1, h2, h3⟩ := this
    exact List.mem_map.mpr ⟨k, own_mem.mpr ⟨h1, h2⟩, h3⟩
  have nd : ((List.range H).map fun i => ((i : Nat) : Int)).Nodup := by
    show List.Pairwise (· ≠ ·) _
    rw [List.pairwise_map]
    exact List.Pairwise.imp (R := fun (a b : Nat) => a ≠ b) (fun {a b} h e => h (Int.ofNat.inj e)) List.nodup_range
  have := nodup_leG nd sub
  simpa using this
def stuckD (b : Bool) (p : Int) : PyData := .tuple [.str "NoFreeHour", .int p, .str (if b = true then "group" else "teacher")]
theorem stuck_loop {R : Ros} (ok : RosOk 8 16 R) {H : Nat} (hd : H < degN R) (hH : H ≤ 17) : ∀ (ks ps : List Nat) (us : List Int), (ps ++ ks).Perm (List.range R.ls.length) → SchH ⟨R.T, R.G, ps.map (lsA R.ls)⟩ H us →
    ∃ (b : Bool) (p : Int) (sc : PyData) (ls : List Les), forS (ks.map natD) (L__law_stuck_1 (.int (H : Nat)) (.int R.T) (.int R.G) (.tuple (R.ls.map les))) (.tuple (us.map .int), .tuple ((ps.map (lsA R.ls)).map les)) = some (.rt (stuckD b p), (sc, .tuple (ls.map les))) ∧ cntP ls b p = H ∧ ls.length ≤ 16
  | [], ps, us, hp, S => by
    obtain ⟨b, p, _, e⟩ := deg_at ok
    have hp : ps.Perm (List.range R.ls.length) := by simpa using hp
    have h1 := own_le S b (p : Nat)
    rw [own_cnt, perm_cnt (perm_les hp), ← own_cnt, ← e] at h1
    omega
  | k :: ks, ps, us, hp, S => by
    have hk : k < R.ls.length := by simpa using hp.mem_iff.mp (List.mem_append_right _ (List.mem_cons_self ..))
    have hlen : ps.length + (ks.length + 1) = R.ls.length := by simpa using hp.length_eq
    have l16 := ok.len
    obtain ⟨i1, i2, i3⟩ := les_ix hk
    have hu : us.length = ps.length := by have := S.len; simpa using this
    have rd1 : rosD ⟨R.T, R.G, ps.map (lsA R.ls)⟩ = .tuple [.int R.T, .int R.G, .tuple ((ps.map (lsA R.ls)).map les)] := rfl
    have bad : ∀ (b : Bool), freeL ⟨R.T, R.G, ps.map (lsA R.ls)⟩ us H b (sideOf b (lsA R.ls k)) = [] → f_insert_lesson_x (rosD ⟨R.T, R.G, ps.map (lsA R.ls)⟩) (.tuple (us.map .int)) (.int (H : Nat)) (.int (lsA R.ls k).1) (.int (lsA R.ls k).2) = some (stuckD b (sideOf b (lsA R.ls k))) →
        ∃ (b : Bool) (p : Int) (sc : PyData) (ls : List Les), forS ((k :: ks).map natD) (L__law_stuck_1 (.int (H : Nat)) (.int R.T) (.int R.G) (.tuple (R.ls.map les))) (.tuple (us.map .int), .tuple ((ps.map (lsA R.ls)).map les)) = some (.rt (stuckD b p), (sc, .tuple (ls.map les))) ∧ cntP ls b p = H ∧ ls.length ≤ 16 := fun b fr e => by
      rw [rd1] at e
      have ie : gIsOk tb__law_stuck_t1_insert_lesson_x (stuckD b (sideOf b (lsA R.ls k))) = some (.bool false) := rfl
      have st : L__law_stuck_1 (.int (H : Nat)) (.int R.T) (.int R.G) (.tuple (R.ls.map les)) (natD k) (.tuple (us.map .int), .tuple ((ps.map (lsA R.ls)).map les)) = some (.rt (stuckD b (sideOf b (lsA R.ls k))), (.tuple (us.map .int), .tuple ((ps.map (lsA R.ls)).map les))) := by
        simp -implicitDefEqProofs only [L__law_stuck_1, i1, i2, i3, Option.bind_some, e, ie, asB_bool, Bool.false_eq_true, if_false]
      refine ⟨b, sideOf b (lsA R.ls k), .tuple (us.map .int), ps.map (lsA R.ls), ?_, ?_, by simp; omega⟩
      · show (L__law_stuck_1 _ _ _ _ (natD k) _).bind _ = _
        rw [st]; rfl
      · have := own_full S fr
        rwa [own_cnt] at this
    by_cases fA : freeL ⟨R.T, R.G, ps.map (lsA R.ls)⟩ us H false (lsA R.ls k).1 = []
    · exact bad false fA (insertX_no (R := ⟨R.T, R.G, ps.map (lsA R.ls)⟩) S.len (by simp; omega) (by omega) fA)
    by_cases fB : freeL ⟨R.T, R.G, ps.map (lsA R.ls)⟩ us H true (lsA R.ls k).2 = []
    · exact bad true fB (insertX_no2 (R := ⟨R.T, R.G, ps.map (lsA R.ls)⟩) S.len (by simp; omega) (by omega) fA fB)
    have ins := insertX_ok (R := ⟨R.T, R.G, ps.map (lsA R.ls)⟩) (us := us) (H := H) S.len (by simp; omega) (by omega) (t := (lsA R.ls k).1) (g := (lsA R.ls k).2) fA fB
    have good := insert_good S (t := (lsA R.ls k).1) (g := (lsA R.ls k).2) fA fB
    rw [rd1] at ins
    have ap := snoc_D (T := R.T) (G := R.G) (ls := ps.map (lsA R.ls)) (x := lsA R.ls k) (by simp; omega)
    have ie : ∀ d, gIsOk tb__law_stuck_t1_insert_lesson_x (.list [d]) = some (.bool true) := fun d => rfl
    have un : ∀ d, gUn (.list [d]) = some d := fun d => rfl
    have st : L__law_stuck_1 (.int (H : Nat)) (.int R.T) (.int R.G) (.tuple (R.ls.map les)) (natD k) (.tuple (us.map .int), .tuple ((ps.map (lsA R.ls)).map les)) = some (.nx, (.tuple ((insL ⟨R.T, R.G, ps.map (lsA R.ls)⟩ us H (lsA R.ls k).1 (lsA R.ls k).2).map .int), .tuple ((ps.map (lsA R.ls) ++ [lsA R.ls k]).map les))) := by
      simp -implicitDefEqProofs only [L__law_stuck_1, i1, i2, i3, Option.bind_some, ins, ie, asB_bool, if_true, un, ap]
    obtain ⟨b, p, sc, ls, e, h1, h2⟩ := stuck_loop ok hd hH ks (ps ++ [k]) (insL ⟨R.T, R.G, ps.map (lsA R.ls)⟩ us H (lsA R.ls k).1 (lsA R.ls k).2) (by simpa using hp) (by rw [List.map_append]; exact good)
    refine ⟨b, p, sc, ls, ?_, h1, h2⟩
    show (L__law_stuck_1 _ _ _ _ (natD k) _).bind _ = _
    rw [st, Option.bind_some]
    rw [List.map_append] at e
    exact e
theorem stuck_ok {R : Ros} (ok : RosOk 8 16 R) {H : Nat} (hd : H < degN R) (hH : H ≤ 17) {ks : List Nat} (hp : ks.Perm (List.range R.ls.length)) : f__law_stuck (rosD R) (.list (ks.map natD)) (.int (H : Nat)) = some (.bool true) := by
  obtain ⟨b, p, sc, ls, e, h1, h2⟩ := stuck_loop ok hd hH ks [] [] hp sched_nil
  have e : forS (ks.map natD) (L__law_stuck_1 (.int (H : Nat)) (.int R.T) (.int R.G) (.tuple (R.ls.map les))) (.tuple [], .tuple []) = some (.rt (stuckD b p), (sc, .tuple (ls.map les))) := e
  have u3 : un3 (rosD R) = some (.int R.T, .int R.G, .tuple (R.ls.map les)) := rfl
  have u2 : un2 (.tuple [(.tuple []), (.tuple [])]) = some (PyData.tuple [], PyData.tuple []) := rfl
  have k1 : gIsOk tb__law_stuck_t1 (stuckD b p) = some (.bool false) := rfl
  have k2 : gIsE rt__law_stuck_t1_NoFreeHour (stuckD b p) = some (.bool true) := rfl
  have k3 : gFldE tb__law_stuck_t1 "side" (stuckD b p) = some (.str (if b = true then "group" else "teacher")) := rfl
  have k4 : gFldE tb__law_stuck_t1 "person" (stuckD b p) = some (.int p) := rfl
  have k5 : gEq (.str (if b = true then "group" else "teacher")) (.str "group") = some (.bool b) := by cases b <;> rfl
  have k6 : gInt (.bool b) = some (.int (if b = true then 1 else 0)) := by cases b <;> rfl
  have f : filS (ls.map les) (C__law_stuck_1 (stuckD b p) (.int (if b = true then 1 else 0))) = some ((ls.filter fun x => decide (sideOf b x = p)).map les) := filS_of fun x _ => by
    have g1 : gIx (les x) (.int (if b = true then 1 else 0)) = some (.int (sideOf b x)) := by cases b <;> rfl
    have g2 : gEq (.int (sideOf b x)) (.int p) = some (.bool (decide (sideOf b x = p))) := xEq
    simp -implicitDefEqProofs only [C__law_stuck_1, g1, k4, g2, Option.bind_some, asB_bool]
    split <;> rfl
  have l1 : (ls.filter fun x => decide (sideOf b x = p)).length = H := h1
  have g3 : gEq (.int (H : Nat)) (.int (H : Nat)) = some (.bool true) := by rw [xEq, decide_eq_true rfl]
  simp -implicitDefEqProofs only [Option.bind_some, asB_bool, if_true, Bool.false_eq_true, if_false, xTruB, Bool.not_true, Bool.not_false, un2_ok, un3_ok, un2L_ok, xSeqL, xSeqT, xTupL, scInt, grd_true, thenS_nx, thenS_rt, xPrt, f__law_stuck, u3, u2, e, k1, k2, k3, k5, k6, f, xLenL, List.length_map, l1, g3]
theorem max2_nat {a b : Nat} : gMax2 (natD a) (natD b) = some (natD (max a b)) := by
  show some (PyData.int (if _ then _ else _)) = _
  split <;> congr 2 <;> omega
theorem law_turn {R : Ros} (ok : RosOk 8 16 R) {k : Nat} {d : PyData} (hd : Deck k d) (hk : k ≤ 100000) (x : PyData) : ∃ d', L_law_2 (rosD R) (natD (degN R)) x d = some (.nx, d') ∧ Deck (k + 20) d' := by
  have l16 := ok.len
  have iL : gIx (rosD R) (.int 2) = some (.tuple (R.ls.map les)) := by simp [rosD]
  have ln : gLen (.tuple (R.ls.map les)) = some (natD R.ls.length) := by simp; rfl
  obtain ⟨ys, d1, e1, k1, p1⟩ := shuf_ok hd (by omega) ((List.range R.ls.length).map natD) (by simp; omega)
  obtain ⟨ks, rfl, hp⟩ := perm_map p1.symm (List.range R.ls.length) rfl
  obtain ⟨r, d2, e2, k2, r0, r3⟩ := next_ok k1 (by simp; omega) 3 (by decide) (by decide)
  have dg : degN R ≤ 16 := by
    obtain ⟨b, p, _, e⟩ := deg_at ok
    rw [e]
    exact Nat.le_trans (own_lenR b _) l16
  obtain ⟨q, eq, q1⟩ : ∃ q : Nat, gIx (.list [(.int 0), (.int 0), (.int 1)]) (.int r) = some (natD q) ∧ q ≤ 1 := by
    rcases (show r = 0 ∨ r = 1 ∨ r = 2 by omega) with rfl | rfl | rfl
    · exact ⟨0, rfl, by decide⟩
    · exact ⟨0, rfl, by decide⟩
    · exact ⟨1, rfl, by decide⟩
  have mx : gMax2 (.int 1) (natD (degN R)) = some (natD (max 1 (degN R))) := max2_nat (a := 1)
  have ad : gAdd (natD (max 1 (degN R))) (natD q) = some (.int ((max 1 (degN R) + q : Nat) : Int)) := by
    show gAdd (.int _) (.int _) = _
    rw [xAdd]; rfl
  have fl := filled_ok ok (H := max 1 (degN R) + q) (by omega) (by omega) hp
  refine ⟨d2, ?_, k2.mono (by simp; omega)⟩
  by_cases c : 1 < degN R
  · have gt : gGt (natD (degN R)) (.int 1) = some (.bool true) := by
      show gGt (.int _) (.int _) = _
      rw [xGt, decide_eq_true (by omega)]
    have sb : gSub (natD (degN R)) (.int 1) = some (.int ((degN R - 1 : Nat) : Int)) := by
      show gSub (.int _) (.int _) = _
      rw [xSub, show ((degN R : Nat) : Int) - 1 = ((degN R - 1 : Nat) : Int) by omega]
    have st := stuck_ok ok (H := degN R - 1) (by omega) (by omega) hp
    simp -implicitDefEqProofs only [L_law_2, iL, ln, rngN' (show R.ls.length ≤ 1000000 by omega), Option.bind_some, e1, mx, e2, eq, ad, fl, xTruB, Bool.not_true, Bool.false_eq_true, if_false, gt, asB_bool, if_true, sb, st]
  · have gt : gGt (natD (degN R)) (.int 1) = some (.bool false) := by
      show gGt (.int _) (.int _) = _
      rw [xGt, decide_eq_false (by omega)]
    simp -implicitDefEqProofs only [L_law_2, iL, ln, rngN' (show R.ls.length ≤ 1000000 by omega), Option.bind_some, e1, mx, e2, eq, ad, fl, xTruB, Bool.not_true, Bool.false_eq_true, if_false, gt, asB_bool]
theorem law_step {k : Nat} {d : PyData} (hd : Deck k d) (hk : k ≤ 10000) (x : PyData) : ∃ d', L_law_1 x d = some (.nx, d') ∧ Deck (k + 100) d' := by
  obtain ⟨R, d1, e1, k1, ok⟩ := roster_ok hd (by omega)
  obtain ⟨d2, e2, k2⟩ := law_turn ok k1 (by omega) (natD 0)
  obtain ⟨d3, e3, k3⟩ := law_turn ok k2 (by omega) (natD 1)
  have r2 : rng1 (.int 2) = some [natD 0, natD 1] := rfl
  have f : forS [natD 0, natD 1] (L_law_2 (rosD R) (natD (degN R))) d1 = some (.nx, d3) := by
    show (L_law_2 _ _ (natD 0) d1).bind _ = _
    rw [e2, Option.bind_some]
    show (L_law_2 _ _ (natD 1) d2).bind _ = _
    rw [e3]; rfl
  refine ⟨d3, ?_, k3.mono (by omega)⟩
  simp -implicitDefEqProofs only [L_law_1, e1, Option.bind_some, law_degree_ok ok, r2, f, thenS_nx]
theorem law_true (ns : List Int) (h : ns.length ≤ 63) : ∃ fs, F_law [.list (ns.map .int)] = some (.bool true, fs) := by
  obtain ⟨d, h1, k1⟩ := deck_ok ns h
  obtain ⟨d9, h2, k2⟩ := forS_range (f := L_law_1) (s := d) (n := 5) (fun i s => Deck (100 * i) s) k1 fun i s hi hs => by
    obtain ⟨d', e, k'⟩ := law_step hs (by omega) (natD i)
    exact ⟨d', e, k'.mono (by omega)⟩
  have r : rng1 (.int 5) = some ((List.range 5).map natD) := rng1_ok (by decide) (by decide)
  rw [f_law_eq]
  have : f_law (.list (ns.map .int)) = some (.bool true) := by
    simp -implicitDefEqProofs only [Option.bind_some, asB_bool, if_true, Bool.false_eq_true, if_false, xTruB, Bool.not_true, Bool.not_false, un2_ok, un3_ok, un2L_ok, xSeqL, xSeqT, xTupL, scInt, grd_true, thenS_nx, thenS_rt, xPrt, f_law, h1, r, h2]
  rw [this]
  exact ⟨_, rfl⟩
end LK
namespace LK
open PySem L2 PySem.Spec PyProof.Rows DL
def topS (i : Nat) : Stmt := PySem.Challenge.pw_listedges_k59_whole_rosters_built.main.body.getD i (.Pass ⟨0, 0, 0, 0⟩)
abbrev st__law_deck : Stmt := topS 15
theorem sc__law_deck : FnScope ["_law_script", "_law_cell"] ["_law_script"] (defScope st__law_deck) := ⟨rfl, rfl, rfl, by decide +kernel, rfl, by decide +kernel, by decide +kernel⟩
abbrev st__law_next : Stmt := topS 16
theorem sc__law_next : FnScope ["_law_deck_here", "_law_many", "_law_cell", "_law_digit"] ["_law_deck_here", "_law_many"] (defScope st__law_next) := ⟨rfl, rfl, rfl, by decide +kernel, rfl, by decide +kernel, by decide +kernel⟩
abbrev st__law_roster : Stmt := topS 17
theorem sc__law_roster : FnScope ["_law_deck_here", "_law_most", "_law_people", "_law_teachers", "_law_groups", "_law_lessons", "_law_k"] ["_law_deck_here", "_law_most"] (defScope st__law_roster) := ⟨rfl, rfl, rfl, by decide +kernel, rfl, by decide +kernel, by decide +kernel⟩
abbrev st__law_degrees : Stmt := topS 18
theorem sc__law_degrees : FnScope ["_law_roster_here", "_law_found", "_law_side", "_law_person", "_law_row"] ["_law_roster_here"] (defScope st__law_degrees) := ⟨rfl, rfl, rfl, by decide +kernel, rfl, by decide +kernel, by decide +kernel⟩
abbrev st__law_degree : Stmt := topS 19
theorem sc__law_degree : FnScope ["_law_roster_here", "_law_by_teacher", "_law_by_group"] ["_law_roster_here"] (defScope st__law_degree) := ⟨rfl, rfl, rfl, by decide +kernel, rfl, by decide +kernel, by decide +kernel⟩
abbrev st__law_shuffled : Stmt := topS 20
theorem sc__law_shuffled : FnScope ["_law_deck_here", "_law_items", "_law_left", "_law_found"] ["_law_deck_here", "_law_items"] (defScope st__law_shuffled) := ⟨rfl, rfl, rfl, by decide +kernel, rfl, by decide +kernel, by decide +kernel⟩
abbrev st_lessons_of : Stmt := topS 6
theorem sc_lessons_of : FnScope ["roster", "side", "person", "place", "index", "lesson"] ["roster", "side", "person"] (defScope st_lessons_of) := ⟨rfl, rfl, rfl, by decide +kernel, rfl, by decide +kernel, by decide +kernel⟩
abbrev st_free_hours : Stmt := topS 12
theorem sc_free_hours : FnScope ["roster", "schedule", "hours", "side", "person", "busy", "lesson", "hour"] ["roster", "schedule", "hours", "side", "person"] (defScope st_free_hours) := ⟨rfl, rfl, rfl, by decide +kernel, rfl, by decide +kernel, by decide +kernel⟩
abbrev st_are_rivals : Stmt := topS 7
theorem sc_are_rivals : FnScope ["roster", "one", "other", "first", "second"] ["roster", "one", "other"] (defScope st_are_rivals) := ⟨rfl, rfl, rfl, by decide +kernel, rfl, by decide +kernel, by decide +kernel⟩
abbrev st_rivals : Stmt := topS 8
theorem sc_rivals : FnScope ["roster", "lesson", "other"] ["roster", "lesson"] (defScope st_rivals) := ⟨rfl, rfl, rfl, by decide +kernel, rfl, by decide +kernel, by decide +kernel⟩
abbrev st_chain_of : Stmt := topS 10
theorem sc_chain_of : FnScope ["roster", "schedule", "lesson", "hour", "hours", "found", "at", "other"] ["roster", "schedule", "lesson", "hour"] (defScope st_chain_of) := ⟨rfl, rfl, rfl, by decide +kernel, rfl, by decide +kernel, by decide +kernel⟩
abbrev st_exchange : Stmt := topS 11
theorem sc_exchange : FnScope ["roster", "schedule", "lesson", "hour", "swapped", "chain", "index", "value"] ["roster", "schedule", "lesson", "hour"] (defScope st_exchange) := ⟨rfl, rfl, rfl, by decide +kernel, rfl, by decide +kernel, by decide +kernel⟩
abbrev st_insert_lesson : Stmt := topS 13
theorem sc_insert_lesson : FnScope ["roster", "schedule", "hours", "teacher", "group", "by_teacher", "by_group", "common", "hour", "taken", "lesson"] ["roster", "schedule", "hours", "teacher", "group"] (defScope st_insert_lesson) := ⟨rfl, rfl, rfl, by decide +kernel, rfl, by decide +kernel, by decide +kernel⟩
abbrev st__law_whole : Stmt := topS 21
theorem sc__law_whole : FnScope ["_law_value"] ["_law_value"] (defScope st__law_whole) := ⟨rfl, rfl, rfl, by decide +kernel, rfl, by decide +kernel, by decide +kernel⟩
abbrev st__law_are_rivals : Stmt := topS 22
theorem sc__law_are_rivals : FnScope ["_law_roster_here", "_law_one", "_law_other", "_law_first", "_law_second"] ["_law_roster_here", "_law_one", "_law_other"] (defScope st__law_are_rivals) := ⟨rfl, rfl, rfl, by decide +kernel, rfl, by decide +kernel, by decide +kernel⟩
abbrev st__law_is_schedule : Stmt := topS 23
theorem sc__law_is_schedule : FnScope ["_law_roster_here", "_law_value", "_law_one", "_law_hour", "_law_k"] ["_law_roster_here", "_law_value"] (defScope st__law_is_schedule) := ⟨rfl, rfl, rfl, by decide +kernel, rfl, by decide +kernel, by decide +kernel⟩
abbrev st__law_filled : Stmt := topS 24
theorem sc__law_filled : FnScope ["_law_roster_here", "_law_order", "_law_hours", "_law_teachers", "_law_groups", "_law_lessons", "_law_schedule", "_law_some", "_law_lesson", "_law_after", "_law_moves", "_law_hour", "_law_one", "_law_other"] ["_law_roster_here", "_law_order", "_law_hours"] (defScope st__law_filled) := ⟨rfl, rfl, rfl, by decide +kernel, rfl, by decide +kernel, by decide +kernel⟩
abbrev st__law_stuck : Stmt := topS 25
theorem sc__law_stuck : FnScope ["_law_roster_here", "_law_order", "_law_hours", "_law_teachers", "_law_groups", "_law_lessons", "_law_schedule", "_law_some", "_law_lesson", "error", "_law_side", "_law_row"] ["_law_roster_here", "_law_order", "_law_hours"] (defScope st__law_stuck) := ⟨rfl, rfl, rfl, by decide +kernel, rfl, by decide +kernel, by decide +kernel⟩
abbrev st_law : Stmt := topS 26
theorem sc_law : FnScope ["_law_script", "_law_deck_here", "_law_turn", "_law_roster_here", "_law_degree_here", "_law_again", "_law_order"] ["_law_script"] (defScope st_law) := ⟨rfl, rfl, rfl, by decide +kernel, rfl, by decide +kernel, by decide +kernel⟩
abbrev ini_TooManyLessons : Stmt := clsAt (topS 3) 0
theorem sci_TooManyLessons : FnScope ["self", "bound"] ["self", "bound"] (defScope ini_TooManyLessons) := ⟨rfl, rfl, rfl, by decide +kernel, rfl, by decide +kernel, by decide +kernel⟩
abbrev ini_NoFreeHour : Stmt := clsAt (topS 4) 0
theorem sci_NoFreeHour : FnScope ["self", "side", "person"] ["self", "side", "person"] (defScope ini_NoFreeHour) := ⟨rfl, rfl, rfl, by decide +kernel, rfl, by decide +kernel, by decide +kernel⟩
section
variable {P : Program} {w : World} {K : PySem.W.Frag} {mg : Str → Option Value} {base : Heap}
theorem cal__law_deck (z_abs : mg "abs" = none) (z_len : mg "len" = none) {f : Addr} {fd : FuncData} (F : L2.Fun K "_law_deck" "_law_deck" st__law_deck f fd) (hm : mg "_law_deck" = some (.ref f)) (b : Binds K fd ["_law_script"] []) : CalG P w K mg base 1 "_law_deck" [.q] (.r [(.l .s), .s, .s, .s]) F__law_deck :=
  ⟨f, fd, ["_law_script"], fnG_dl (sf := S__law_deck) (mr := [.u, .u]) (po := []) (r := 1) F sc__law_deck rfl rfl (.stb rfl (.nil _ _)) (.inr nnx_ret) (fun cdv A outer s H E _ _ _ =>
      ss_one (ds_ret (pd_rec (pl_cons (pd_lc [("_law_cell", 1)] (pi_seq (pd_frz (pd_slQ 0))) (pg_nm 1) (pts_no) (pd_b1 clAbs z_abs bt_abs (pd_var 1))) (pl_cons (pd_int) (pl_cons (pd_int) (pl_cons (pd_bin opAdd (pd_int) (pd_bin opMul (pd_int) (pd_lenQ 0 z_len))) (pl_nil)))))) (.cons (.u _) (.cons (.rfl _) .nil)))), hm, F.kp, b⟩
theorem cal__law_next (z_int : mg "int" = none) {f : Addr} {fd : FuncData} (F : L2.Fun K "_law_next" "_law_next" st__law_next f fd) (hm : mg "_law_next" = some (.ref f)) (b : Binds K fd ["_law_deck_here", "_law_many"] []) : CalG P w K mg base 1 "_law_next" [(.r [(.l .s), .s, .s, .s]), .s] .s F__law_next :=
  ⟨f, fd, ["_law_deck_here", "_law_many"], fnG_dl (sf := S__law_next) (mr := [(.r [(.l .s), .s, .s, .s]), .u, .u, .u]) (po := [0]) (r := 2) F sc__law_next rfl rfl (.own (by decide) (.stb rfl (.nil _ _))) (.inl rfl) (fun cdv A outer s H E _ _ _ =>
      ss_cons (ds_pre [2] (ds_wh fuel [(.r [(.l .s), .s, .s, .s]), .s, .u, .u] (.cons (.rfl _) (.cons (.rfl _) (.cons (.rfl _) (.cons (.rfl _) .nil)))) (pb_w (pbw_and (pb_qcmp opEq (pq_ix ixAny (pq_var 0) (pq_int)) (pq_int)) (pbw_and1 (pb_qcmp opNe (pq_ix ixAny (pq_var 0) (pq_int)) (pq_nil)))))
        (ss_post [2] [1, 2, 3] (ss_le (ss_cons (ds_asg 2 (pd_popAt (pp_fld 0 (pp_var 0)) (pq_int)))
      (ss_cons (ds_setR 3 (pd_bin opMod (pd_bin opAdd (pd_bin opAdd (pd_bin opMul (pd_q (pq_ix ixAny (pq_var 0) (pq_int))) (pd_int)) (pd_var 2)) (pd_int)) (pd_int)) (pp_var 0))
      (ss_one (ds_setR 1 (pd_bin opMul (pd_var 2) (pd_t1 clInt z_int bt_int (pd_cmp opGe (pd_var 2) (pd_bin opPow (pd_int) (pd_int))))) (pp_var 0))))) (.cons (.rfl _) (.cons (.rfl _) (.cons (.u _) (.cons (.rfl _) .nil)))))) (.cons (.rfl _) (.cons (.rfl _) (.cons (.rfl _) (.cons (.rfl _) .nil))))) (.cons (.rfl _) (.cons (.rfl _) (.cons (.rfl _) (.cons (.rfl _) .nil)))))
      (ss_cons (ds_if (pb_qcmp opGt (pq_ix ixAny (pq_var 0) (pq_int)) (pq_int))
        (ss_cons (ds_asg 3 (pd_bin opMod (pd_q (pq_ix ixAny (pq_var 0) (pq_int))) (pd_var 1)))
      (ss_cons (ds_setR 1 (pd_bin opFdiv (pd_q (pq_ix ixAny (pq_var 0) (pq_int))) (pd_var 1)) (pp_var 0))
      (ss_one (ds_ret (pd_var 3) (.cons (.rfl _) (.cons (.u _) (.cons (.rfl _) (.cons (.u _) .nil))))))))
        (ss_nil))
      (ss_cons (ds_setR 2 (pd_bin opAdd (pd_q (pq_ix ixAny (pq_var 0) (pq_int))) (pd_int)) (pp_var 0))
      (ss_cons (ds_setR 3 (pd_bin opMod (pd_bin opAdd (pd_bin opAdd (pd_bin opMul (pd_q (pq_ix ixAny (pq_var 0) (pq_int))) (pd_int)) (pd_bin opMul (pd_int) (pd_q (pq_ix ixAny (pq_var 0) (pq_int))))) (pd_int)) (pd_int)) (pp_var 0))
      (ss_one (ds_ret (pd_bin opMod (pd_bin opFdiv (pd_bin opMod (pd_bin opMul (pd_q (pq_ix ixAny (pq_var 0) (pq_int))) (pd_q (pq_ix ixAny (pq_var 0) (pq_int)))) (pd_int)) (pd_int)) (pd_var 1)) (.cons (.rfl _) (.cons (.u _) (.cons (.rfl _) (.cons (.rfl _) .nil)))))))))), hm, F.kp, b⟩
theorem cal__law_roster (c__law_next : CalG P w K mg base 1 "_law_next" [(.r [(.l .s), .s, .s, .s]), .s] .s F__law_next) (z_range : mg "range" = none) (z_tuple : mg "tuple" = none) {f : Addr} {fd : FuncData} (F : L2.Fun K "_law_roster" "_law_roster" st__law_roster f fd) (hm : mg "_law_roster" = some (.ref f)) (b : Binds K fd ["_law_deck_here", "_law_most"] []) : CalG P w K mg base 2 "_law_roster" [(.r [(.l .s), .s, .s, .s]), .s] .s F__law_roster :=
  ⟨f, fd, ["_law_deck_here", "_law_most"], fnG_dl (sf := S__law_roster) (mr := [(.r [(.l .s), .s, .s, .s]), .u, .u, .u, .u, .u, .u]) (po := [0]) (r := 5) F sc__law_roster rfl rfl (.own (by decide) (.stb rfl (.nil _ _))) (.inl rfl) (fun cdv A outer s H E _ _ _ =>
      ss_cons (ds_asg 2 (pd_ix ixAny (pd_frz (pd_lst (k := 5) .s (pl_cons (pd_int) (pl_cons (pd_int) (pl_cons (pd_int) (pl_cons (pd_int) (pl_cons (pd_int) (pl_nil)))))))) (pd_callL (kk := 0) (j := 0) c__law_next (pl_lend 0 (pl_cons (pd_int) (pl_nil))))))
      (ss_cons (ds_tg (pd_tup (k := 2) (pl_cons (pd_bin opAdd (pd_int) (pd_callL (kk := 0) (j := 0) c__law_next (pl_lend 0 (pl_cons (pd_var 2) (pl_nil))))) (pl_cons (pd_bin opAdd (pd_int) (pd_callL (kk := 0) (j := 0) c__law_next (pl_lend 0 (pl_cons (pd_var 2) (pl_nil))))) (pl_nil)))) (pg_tp (k := 2) (pgs_cn (pg_nm 3) (pgs_cn (pg_nm 4) (pgs_nl)))))
      (ss_cons (ds_setLc 5 [("_law_k", 6)] (pi_r1 z_range (pd_callL (kk := 0) (j := 0) c__law_next (pl_lend 0 (pl_cons (pd_bin opAdd (pd_var 1) (pd_int)) (pl_nil))))) (pg_nm 6) (pts_no) (pd_tup (k := 2) (pl_cons (pd_callL (kk := 0) (j := 0) c__law_next (pl_lend 0 (pl_cons (pd_var 3) (pl_nil)))) (pl_cons (pd_callL (kk := 0) (j := 0) c__law_next (pl_lend 0 (pl_cons (pd_var 4) (pl_nil)))) (pl_nil)))))
      (ss_cons (ds_if (pb_w (pbw_and (pb_qcmp opNe (pq_var 5) (pq_nil)) (pbw_and1 (pb_cmp opEq (pd_callL (kk := 0) (j := 0) c__law_next (pl_lend 0 (pl_cons (pd_int) (pl_nil)))) (pd_int)))))
        (ss_one (ds_setL (pd_itm (pp_var 5) (pq_int)) (pp_var 5) (pq_neg)))
        (ss_nil))
      (ss_one (ds_ret (pd_tup (k := 3) (pl_cons (pd_var 3) (pl_cons (pd_var 4) (pl_cons (pd_t1 clTuple z_tuple bt_tuple (pd_frzVar 5)) (pl_nil))))) (.cons (.rfl _) (.cons (.u _) (.cons (.u _) (.cons (.u _) (.cons (.u _) (.cons (.u _) (.cons (.rfl _) .nil))))))))))))), hm, F.kp, b⟩
theorem cal__law_degrees (z_range : mg "range" = none) (z_len : mg "len" = none) {f : Addr} {fd : FuncData} (F : L2.Fun K "_law_degrees" "_law_degrees" st__law_degrees f fd) (hm : mg "_law_degrees" = some (.ref f)) (b : Binds K fd ["_law_roster_here"] []) : CalG P w K mg base 1 "_law_degrees" [.s] .s F__law_degrees :=
  ⟨f, fd, ["_law_roster_here"], fnG_dl (sf := S__law_degrees) (mr := [.u, .u, .u, .u, .u]) (po := []) (r := 4) F sc__law_degrees rfl rfl (.stb rfl (.nil _ _)) (.inl rfl) (fun cdv A outer s H E _ _ _ =>
      ss_cons (ds_asg 1 (pd_lst (k := 0) .s (pl_nil)))
      (ss_cons (ds_for [.s, (.l .s), .u, .u, .u] (pi_fg [2] (pi_r1 z_range (pd_int)) (.cons (.rfl _) (.cons (.rfl _) (.cons (.rfl _) (.cons (.rfl _) (.cons (.rfl _) .nil)))))) (.cons (.rfl _) (.cons (.rfl _) (.cons (.rfl _) (.cons (.rfl _) (.cons (.rfl _) .nil))))) (pg_nm 2)
        (ss_post [2] [0, 1, 2, 3, 4] (ss_le (ss_one (ds_drop (pd_app 1 (pd_frz (pd_lc [("_law_person", 3)] (pi_r1 z_range (pd_ix ixAny (pd_var 0) (pd_var 2))) (pg_nm 3) (pts_no) (pd_b1 clLen z_len bt_len (pd_frz (pd_lc [("_law_row", 4)] (pi_seq (pd_ix ixAny (pd_var 0) (pd_int))) (pg_nm 4) (pts_if (pb_cmp opEq (pd_ix ixAny (pd_var 4) (pd_var 2)) (pd_var 3))) (pd_var 4))))))))) (.cons (.rfl _) (.cons (.rfl _) (.cons (.u _) (.cons (.rfl _) (.cons (.rfl _) .nil))))))) (.cons (.rfl _) (.cons (.rfl _) (.cons (.rfl _) (.cons (.rfl _) (.cons (.rfl _) .nil))))))
      (ss_one (ds_ret (pd_frzVar 1) (.cons (.u _) (.cons (.u _) (.cons (.rfl _) (.cons (.rfl _) (.cons (.rfl _) .nil))))))))), hm, F.kp, b⟩
theorem cal__law_degree (c__law_degrees : CalG P w K mg base 1 "_law_degrees" [.s] .s F__law_degrees) (z_max : mg "max" = none) {f : Addr} {fd : FuncData} (F : L2.Fun K "_law_degree" "_law_degree" st__law_degree f fd) (hm : mg "_law_degree" = some (.ref f)) (b : Binds K fd ["_law_roster_here"] []) : CalG P w K mg base 2 "_law_degree" [.s] .s F__law_degree :=
  ⟨f, fd, ["_law_roster_here"], fnG_dl (sf := S__law_degree) (mr := [.u, .u, .u]) (po := []) (r := 2) F sc__law_degree rfl rfl (.stb rfl (.nil _ _)) (.inl rfl) (fun cdv A outer s H E _ _ _ =>
      ss_cons (ds_tg (pd_call c__law_degrees (pl_cons (pd_var 0) (pl_nil))) (pg_tpL (k := 2) (pgs_cn (pg_nm 1) (pgs_cn (pg_nm 2) (pgs_nl)))))
      (ss_one (ds_ret (pd_b1 clMax z_max bt_max (pd_bin opAdd (pd_var 1) (pd_var 2))) (.cons (.u _) (.cons (.u _) (.cons (.u _) .nil)))))), hm, F.kp, b⟩
theorem cal__law_shuffled (c__law_next : CalG P w K mg base 1 "_law_next" [(.r [(.l .s), .s, .s, .s]), .s] .s F__law_next) (z_list : mg "list" = none) (z_len : mg "len" = none) {f : Addr} {fd : FuncData} (F : L2.Fun K "_law_shuffled" "_law_shuffled" st__law_shuffled f fd) (hm : mg "_law_shuffled" = some (.ref f)) (b : Binds K fd ["_law_deck_here", "_law_items"] []) : CalG P w K mg base 2 "_law_shuffled" [(.r [(.l .s), .s, .s, .s]), .s] .s F__law_shuffled :=
  ⟨f, fd, ["_law_deck_here", "_law_items"], fnG_dl (sf := S__law_shuffled) (mr := [(.r [(.l .s), .s, .s, .s]), .u, .u, .u]) (po := [0]) (r := 2) F sc__law_shuffled rfl rfl (.own (by decide) (.stb rfl (.nil _ _))) (.inl rfl) (fun cdv A outer s H E _ _ _ =>
      ss_cons (ds_asg 2 (pd_t1 clList z_list bt_list (pd_var 1)))
      (ss_cons (ds_asg 3 (pd_lst (k := 0) .s (pl_nil)))
      (ss_cons (ds_pre [] (ds_wh fuel [(.r [(.l .s), .s, .s, .s]), .s, (.l .s), (.l .s)] (.cons (.rfl _) (.cons (.rfl _) (.cons (.rfl _) (.cons (.rfl _) .nil)))) (pb_qcmp opNe (pq_var 2) (pq_nil))
        (ss_post [] [1, 2, 3] (ss_one (ds_drop (pd_app 3 (pd_popG 2 (pd_callL (kk := 0) (j := 0) c__law_next (pl_lend 0 (pl_cons (pd_q (pq_b1 clLen z_len bt_len (pq_var 2))) (pl_nil))))))))) (.cons (.rfl _) (.cons (.rfl _) (.cons (.rfl _) (.cons (.rfl _) .nil))))) (.cons (.rfl _) (.cons (.rfl _) (.cons (.rfl _) (.cons (.rfl _) .nil)))))
      (ss_one (ds_ret (pd_frzVar 3) (.cons (.rfl _) (.cons (.u _) (.cons (.u _) (.cons (.u _) .nil))))))))), hm, F.kp, b⟩
theorem cal_lessons_of (z_enumerate : mg "enumerate" = none) {f : Addr} {fd : FuncData} (F : L2.Fun K "lessons_of" "lessons_of" st_lessons_of f fd) (hm : mg "lessons_of" = some (.ref f)) (b : Binds K fd ["roster", "side", "person"] []) : CalG P w K mg base 1 "lessons_of" [.s, .s, .s] .s F_lessons_of :=
  ⟨f, fd, ["roster", "side", "person"], fnG_dl (sf := S_lessons_of) (mr := [.u, .u, .u, .u, .u, .u]) (po := []) (r := 3) F sc_lessons_of rfl rfl (.stb rfl (.stb rfl (.stb rfl (.nil _ _)))) (.inl rfl) (fun cdv A outer s H E _ _ _ =>
      ss_cons (ds_asg 3 (pd_ifexp (pb_cmp opEq (pd_var 1) (pd_str)) (pd_int) (pd_int)))
      (ss_one (ds_ret (pd_frz (pd_lc [("index", 4), ("lesson", 5)] (pi_en z_enumerate (pd_ix ixAny (pd_var 0) (pd_int))) (pg_tp (k := 2) (pgs_cn (pg_nm 4) (pgs_cn (pg_nm 5) (pgs_nl)))) (pts_if (pb_cmp opEq (pd_ix ixAny (pd_var 5) (pd_var 3)) (pd_var 2))) (pd_var 4))) (.cons (.u _) (.cons (.u _) (.cons (.u _) (.cons (.u _) (.cons (.rfl _) (.cons (.rfl _) .nil))))))))), hm, F.kp, b⟩
theorem cal_free_hours (c_lessons_of : CalG P w K mg base 1 "lessons_of" [.s, .s, .s] .s F_lessons_of) (z_range : mg "range" = none) {f : Addr} {fd : FuncData} (F : L2.Fun K "free_hours" "free_hours" st_free_hours f fd) (hm : mg "free_hours" = some (.ref f)) (b : Binds K fd ["roster", "schedule", "hours", "side", "person"] []) : CalG P w K mg base 2 "free_hours" [.s, .s, .s, .s, .s] .s F_free_hours :=
  ⟨f, fd, ["roster", "schedule", "hours", "side", "person"], fnG_dl (sf := S_free_hours) (mr := [.u, .u, .u, .u, .u, .u, .u, .u]) (po := []) (r := 3) F sc_free_hours rfl rfl (.stb rfl (.stb rfl (.stb rfl (.stb rfl (.stb rfl (.nil _ _)))))) (.inl rfl) (fun cdv A outer s H E _ _ _ =>
      ss_cons (ds_asg 5 (pd_frz (pd_lc [("lesson", 6)] (pi_seq (pd_call c_lessons_of (pl_cons (pd_var 0) (pl_cons (pd_var 3) (pl_cons (pd_var 4) (pl_nil)))))) (pg_nm 6) (pts_no) (pd_ix ixAny (pd_var 1) (pd_var 6)))))
      (ss_one (ds_ret (pd_frz (pd_lc [("hour", 7)] (pi_r1 z_range (pd_var 2)) (pg_nm 7) (pts_if (pb_cmp opNotIn (pd_var 7) (pd_var 5))) (pd_var 7))) (.cons (.u _) (.cons (.u _) (.cons (.u _) (.cons (.u _) (.cons (.u _) (.cons (.u _) (.cons (.rfl _) (.cons (.rfl _) .nil))))))))))), hm, F.kp, b⟩
theorem cal_are_rivals  {f : Addr} {fd : FuncData} (F : L2.Fun K "are_rivals" "are_rivals" st_are_rivals f fd) (hm : mg "are_rivals" = some (.ref f)) (b : Binds K fd ["roster", "one", "other"] []) : CalG P w K mg base 1 "are_rivals" [.s, .s, .s] .s F_are_rivals :=
  ⟨f, fd, ["roster", "one", "other"], fnG_dl (sf := S_are_rivals) (mr := [.u, .u, .u, .u, .u]) (po := []) (r := 2) F sc_are_rivals rfl rfl (.stb rfl (.stb rfl (.stb rfl (.nil _ _)))) (.inl rfl) (fun cdv A outer s H E _ _ _ =>
      ss_cons (ds_par 3 4 (pl_cons (pd_ix ixAny (pd_ix ixAny (pd_var 0) (pd_int)) (pd_var 1)) (pl_cons (pd_ix ixAny (pd_ix ixAny (pd_var 0) (pd_int)) (pd_var 2)) (pl_nil))))
      (ss_one (ds_ret (pd_and (pd_cmp opNe (pd_var 1) (pd_var 2)) (pd_and1 (pd_or (pd_cmp opEq (pd_ix ixAny (pd_var 3) (pd_int)) (pd_ix ixAny (pd_var 4) (pd_int))) (pd_or1 (pd_cmp opEq (pd_ix ixAny (pd_var 3) (pd_int)) (pd_ix ixAny (pd_var 4) (pd_int))))))) (.cons (.u _) (.cons (.u _) (.cons (.u _) (.cons (.u _) (.cons (.u _) .nil)))))))), hm, F.kp, b⟩
theorem cal_rivals (c_are_rivals : CalG P w K mg base 1 "are_rivals" [.s, .s, .s] .s F_are_rivals) (z_tuple : mg "tuple" = none) (z_range : mg "range" = none) (z_len : mg "len" = none) {f : Addr} {fd : FuncData} (F : L2.Fun K "rivals" "rivals" st_rivals f fd) (hm : mg "rivals" = some (.ref f)) (b : Binds K fd ["roster", "lesson"] []) : CalG P w K mg base 2 "rivals" [.s, .s] .s F_rivals :=
  ⟨f, fd, ["roster", "lesson"], fnG_dl (sf := S_rivals) (mr := [.u, .u, .u]) (po := []) (r := 1) F sc_rivals rfl rfl (.stb rfl (.stb rfl (.nil _ _))) (.inl rfl) (fun cdv A outer s H E _ _ _ =>
      ss_one (ds_ret (pd_t1 clTuple z_tuple bt_tuple (pd_frz (pd_lc [("other", 2)] (pi_r1 z_range (pd_b1 clLen z_len bt_len (pd_ix ixAny (pd_var 0) (pd_int)))) (pg_nm 2) (pts_if (pb_of (pd_call c_are_rivals (pl_cons (pd_var 0) (pl_cons (pd_var 1) (pl_cons (pd_var 2) (pl_nil))))))) (pd_var 2)))) (.cons (.u _) (.cons (.u _) (.cons (.rfl _) .nil))))), hm, F.kp, b⟩
theorem cal_chain_of (c_rivals : CalG P w K mg base 2 "rivals" [.s, .s] .s F_rivals) (z_len : mg "len" = none) (z_tuple : mg "tuple" = none) (z_sorted : mg "sorted" = none) {f : Addr} {fd : FuncData} (F : L2.Fun K "chain_of" "chain_of" st_chain_of f fd) (hm : mg "chain_of" = some (.ref f)) (b : Binds K fd ["roster", "schedule", "lesson", "hour"] []) : CalG P w K mg base 3 "chain_of" [.s, .s, .s, .s] .s F_chain_of :=
  ⟨f, fd, ["roster", "schedule", "lesson", "hour"], fnG_dl (sf := S_chain_of) (mr := [.u, .u, .u, .u, .u, .u, .u, .u]) (po := []) (r := 4) F sc_chain_of rfl rfl (.stb rfl (.stb rfl (.stb rfl (.stb rfl (.nil _ _))))) (.inl rfl) (fun cdv A outer s H E _ _ _ =>
      ss_cons (ds_asg 4 (pd_tup (k := 2) (pl_cons (pd_ix ixAny (pd_var 1) (pd_var 2)) (pl_cons (pd_var 3) (pl_nil)))))
      (ss_cons (ds_asg 5 (pd_lst (k := 1) .s (pl_cons (pd_var 2) (pl_nil))))
      (ss_cons (ds_asg 6 (pd_int))
      (ss_cons (ds_pre [7] (ds_wh fuel [.s, .s, .s, .s, .s, (.l .s), .s, .u] (.cons (.rfl _) (.cons (.rfl _) (.cons (.rfl _) (.cons (.rfl _) (.cons (.rfl _) (.cons (.rfl _) (.cons (.rfl _) (.cons (.rfl _) .nil)))))))) (pb_qcmp opLt (pq_var 6) (pq_b1 clLen z_len bt_len (pq_var 5)))
        (ss_post [7] [0, 1, 2, 3, 4, 5, 6, 7] (ss_cons (ds_for [.s, .s, .s, .s, .s, (.l .s), .s, .u] (pi_fg [7] (pi_seq (pd_call c_rivals (pl_cons (pd_var 0) (pl_cons (pd_itm (pp_var 5) (pq_var 6)) (pl_nil))))) (.cons (.rfl _) (.cons (.rfl _) (.cons (.rfl _) (.cons (.rfl _) (.cons (.rfl _) (.cons (.rfl _) (.cons (.rfl _) (.cons (.rfl _) .nil))))))))) (.cons (.rfl _) (.cons (.rfl _) (.cons (.rfl _) (.cons (.rfl _) (.cons (.rfl _) (.cons (.rfl _) (.cons (.rfl _) (.cons (.rfl _) .nil)))))))) (pg_nm 7)
        (ss_post [7] [0, 1, 2, 3, 4, 5, 6, 7] (ss_le (ss_one (ds_if (pb_w (pbw_and (pb_cmp opIn (pd_ix ixAny (pd_var 1) (pd_var 7)) (pd_var 4)) (pbw_and1 (pb_qcmp opNotIn (pq_var 7) (pq_var 5)))))
        (ss_one (ds_drop (pd_app 5 (pd_var 7))))
        (ss_nil))) (.cons (.rfl _) (.cons (.rfl _) (.cons (.rfl _) (.cons (.rfl _) (.cons (.rfl _) (.cons (.rfl _) (.cons (.rfl _) (.cons (.u _) .nil)))))))))) (.cons (.rfl _) (.cons (.rfl _) (.cons (.rfl _) (.cons (.rfl _) (.cons (.rfl _) (.cons (.rfl _) (.cons (.rfl _) (.cons (.rfl _) .nil)))))))))
      (ss_one (ds_augAdd 6 (pd_int))))) (.cons (.rfl _) (.cons (.rfl _) (.cons (.rfl _) (.cons (.rfl _) (.cons (.rfl _) (.cons (.rfl _) (.cons (.rfl _) (.cons (.rfl _) .nil))))))))) (.cons (.rfl _) (.cons (.rfl _) (.cons (.rfl _) (.cons (.rfl _) (.cons (.rfl _) (.cons (.rfl _) (.cons (.rfl _) (.cons (.rfl _) .nil)))))))))
      (ss_one (ds_ret (pd_t1 clTuple z_tuple bt_tuple (pd_frz (pd_b1 clSorted z_sorted bt_sorted (pd_frzVar 5)))) (.cons (.u _) (.cons (.u _) (.cons (.u _) (.cons (.u _) (.cons (.u _) (.cons (.u _) (.cons (.u _) (.cons (.rfl _) .nil)))))))))))))), hm, F.kp, b⟩
theorem cal_exchange (c_chain_of : CalG P w K mg base 3 "chain_of" [.s, .s, .s, .s] .s F_chain_of) (z_tuple : mg "tuple" = none) (z_enumerate : mg "enumerate" = none) {f : Addr} {fd : FuncData} (F : L2.Fun K "exchange" "exchange" st_exchange f fd) (hm : mg "exchange" = some (.ref f)) (b : Binds K fd ["roster", "schedule", "lesson", "hour"] []) : CalG P w K mg base 4 "exchange" [.s, .s, .s, .s] .s F_exchange :=
  ⟨f, fd, ["roster", "schedule", "lesson", "hour"], fnG_dl (sf := S_exchange) (mr := [.u, .u, .u, .u, .u, .u, .u, .u]) (po := []) (r := 4) F sc_exchange rfl rfl (.stb rfl (.stb rfl (.stb rfl (.stb rfl (.nil _ _))))) (.inl rfl) (fun cdv A outer s H E _ _ _ =>
      ss_cons (ds_asg 4 (pd_disp2 (pd_ix ixAny (pd_var 1) (pd_var 2)) (pd_var 3) (pd_var 3) (pd_ix ixAny (pd_var 1) (pd_var 2))))
      (ss_cons (ds_asg 5 (pd_call c_chain_of (pl_cons (pd_var 0) (pl_cons (pd_var 1) (pl_cons (pd_var 2) (pl_cons (pd_var 3) (pl_nil)))))))
      (ss_one (ds_ret (pd_t1 clTuple z_tuple bt_tuple (pd_frz (pd_lc [("index", 6), ("value", 7)] (pi_en z_enumerate (pd_var 1)) (pg_tp (k := 2) (pgs_cn (pg_nm 6) (pgs_cn (pg_nm 7) (pgs_nl)))) (pts_no) (pd_ifexp (pb_cmp opIn (pd_var 6) (pd_var 5)) (pd_dGet 4 (pd_var 7)) (pd_var 7))))) (.cons (.u _) (.cons (.u _) (.cons (.u _) (.cons (.u _) (.cons (.u _) (.cons (.u _) (.cons (.rfl _) (.cons (.rfl _) .nil)))))))))))), hm, F.kp, b⟩
theorem cal_insert_lesson (c_free_hours : CalG P w K mg base 2 "free_hours" [.s, .s, .s, .s, .s] .s F_free_hours) (c_lessons_of : CalG P w K mg base 1 "lessons_of" [.s, .s, .s] .s F_lessons_of) (c_exchange : CalG P w K mg base 4 "exchange" [.s, .s, .s, .s] .s F_exchange) (z_len : mg "len" = none) {t_MAX_LESSONS : Tok} (g_MAX_LESSONS : mg "MAX_LESSONS" = some (.int 16 t_MAX_LESSONS)) {f : Addr} {fd : FuncData} (F : L2.Fun K "insert_lesson" "insert_lesson" st_insert_lesson f fd) (hm : mg "insert_lesson" = some (.ref f)) (b : Binds K fd ["roster", "schedule", "hours", "teacher", "group"] []) : CalG P w K mg base 5 "insert_lesson" [.s, .s, .s, .s, .s] .s F_insert_lesson :=
  ⟨f, fd, ["roster", "schedule", "hours", "teacher", "group"], fnG_dl (sf := S_insert_lesson) (mr := [.u, .u, .u, .u, .u, .u, .u, .u, .u, .u, .u]) (po := []) (r := 6) F sc_insert_lesson rfl rfl (.stb rfl (.stb rfl (.stb rfl (.stb rfl (.stb rfl (.nil _ _)))))) (.inl rfl) (fun cdv A outer s H E _ _ _ =>
      ss_cons (ds_if (pb_cmp opGe (pd_b1 clLen z_len bt_len (pd_ix ixAny (pd_var 0) (pd_int))) (pd_gint g_MAX_LESSONS))
        (ss_one (ds_never))
        (ss_nil))
      (ss_cons (ds_asg 5 (pd_call c_free_hours (pl_cons (pd_var 0) (pl_cons (pd_var 1) (pl_cons (pd_var 2) (pl_cons (pd_str) (pl_cons (pd_var 3) (pl_nil))))))))
      (ss_cons (ds_if (pb_cmp opEq (pd_var 5) (pd_frz (pd_lst (k := 0) .s (pl_nil))))
        (ss_one (ds_never))
        (ss_nil))
      (ss_cons (ds_asg 6 (pd_call c_free_hours (pl_cons (pd_var 0) (pl_cons (pd_var 1) (pl_cons (pd_var 2) (pl_cons (pd_str) (pl_cons (pd_var 4) (pl_nil))))))))
      (ss_cons (ds_if (pb_cmp opEq (pd_var 6) (pd_frz (pd_lst (k := 0) .s (pl_nil))))
        (ss_one (ds_never))
        (ss_nil))
      (ss_cons (ds_setLc 7 [("hour", 8)] (pi_seq (pd_var 5)) (pg_nm 8) (pts_if (pb_cmp opIn (pd_var 8) (pd_var 6))) (pd_var 8))
      (ss_cons (ds_if (pb_cmp opNe (pd_frzVar 7) (pd_frz (pd_lst (k := 0) .s (pl_nil))))
        (ss_one (ds_ret (pd_bin opAdd (pd_var 1) (pd_tup (k := 1) (pl_cons (pd_ix ixAny (pd_var 7) (pd_int)) (pl_nil)))) (.cons (.u _) (.cons (.u _) (.cons (.u _) (.cons (.u _) (.cons (.u _) (.cons (.u _) (.cons (.u _) (.cons (.u _) (.cons (.rfl _) (.cons (.rfl _) (.cons (.rfl _) .nil)))))))))))))
        (ss_nil))
      (ss_cons (ds_asg 8 (pd_ix ixAny (pd_var 5) (pd_int)))
      (ss_cons (ds_setLc 9 [("lesson", 10)] (pi_seq (pd_call c_lessons_of (pl_cons (pd_var 0) (pl_cons (pd_str) (pl_cons (pd_var 4) (pl_nil)))))) (pg_nm 10) (pts_if (pb_cmp opEq (pd_ix ixAny (pd_var 1) (pd_var 10)) (pd_var 8))) (pd_var 10))
      (ss_one (ds_ret (pd_bin opAdd (pd_call c_exchange (pl_cons (pd_var 0) (pl_cons (pd_var 1) (pl_cons (pd_ix ixAny (pd_frzVar 9) (pd_int)) (pl_cons (pd_ix ixAny (pd_var 6) (pd_int)) (pl_nil)))))) (pd_tup (k := 1) (pl_cons (pd_var 8) (pl_nil)))) (.cons (.u _) (.cons (.u _) (.cons (.u _) (.cons (.u _) (.cons (.u _) (.cons (.u _) (.cons (.u _) (.cons (.u _) (.cons (.u _) (.cons (.u _) (.cons (.rfl _) .nil)))))))))))))))))))))), hm, F.kp, b⟩
theorem cal__law_whole (z_isinstance : mg "isinstance" = none) (z_int : mg "int" = none) (z_bool : mg "bool" = none) {f : Addr} {fd : FuncData} (F : L2.Fun K "_law_whole" "_law_whole" st__law_whole f fd) (hm : mg "_law_whole" = some (.ref f)) (b : Binds K fd ["_law_value"] []) : CalG P w K mg base 1 "_law_whole" [.s] .s F__law_whole :=
  ⟨f, fd, ["_law_value"], fnG_dl (sf := S__law_whole) (mr := [.u]) (po := []) (r := 0) F sc__law_whole rfl rfl (.stb rfl (.nil _ _)) (.inl rfl) (fun cdv A outer s H E _ _ _ =>
      ss_one (ds_ret (pd_and (pd_isa "int" z_isinstance z_int bt_int (pd_var 0)) (pd_and1 (pd_notV (pd_isa "bool" z_isinstance z_bool bt_bool (pd_var 0))))) (.cons (.u _) .nil))), hm, F.kp, b⟩
theorem cal__law_are_rivals  {f : Addr} {fd : FuncData} (F : L2.Fun K "_law_are_rivals" "_law_are_rivals" st__law_are_rivals f fd) (hm : mg "_law_are_rivals" = some (.ref f)) (b : Binds K fd ["_law_roster_here", "_law_one", "_law_other"] []) : CalG P w K mg base 1 "_law_are_rivals" [.s, .s, .s] .s F__law_are_rivals :=
  ⟨f, fd, ["_law_roster_here", "_law_one", "_law_other"], fnG_dl (sf := S__law_are_rivals) (mr := [.u, .u, .u, .u, .u]) (po := []) (r := 2) F sc__law_are_rivals rfl rfl (.stb rfl (.stb rfl (.stb rfl (.nil _ _)))) (.inl rfl) (fun cdv A outer s H E _ _ _ =>
      ss_cons (ds_par 3 4 (pl_cons (pd_ix ixAny (pd_ix ixAny (pd_var 0) (pd_int)) (pd_var 1)) (pl_cons (pd_ix ixAny (pd_ix ixAny (pd_var 0) (pd_int)) (pd_var 2)) (pl_nil))))
      (ss_one (ds_ret (pd_and (pd_cmp opNe (pd_var 1) (pd_var 2)) (pd_and1 (pd_or (pd_cmp opEq (pd_ix ixAny (pd_var 3) (pd_int)) (pd_ix ixAny (pd_var 4) (pd_int))) (pd_or1 (pd_cmp opEq (pd_ix ixAny (pd_var 3) (pd_int)) (pd_ix ixAny (pd_var 4) (pd_int))))))) (.cons (.u _) (.cons (.u _) (.cons (.u _) (.cons (.u _) (.cons (.u _) .nil)))))))), hm, F.kp, b⟩
theorem cal__law_is_schedule (c__law_whole : CalG P w K mg base 1 "_law_whole" [.s] .s F__law_whole) (c__law_are_rivals : CalG P w K mg base 1 "_law_are_rivals" [.s, .s, .s] .s F__law_are_rivals) (z_isinstance : mg "isinstance" = none) (z_tuple : mg "tuple" = none) (z_len : mg "len" = none) (z_range : mg "range" = none) {f : Addr} {fd : FuncData} (F : L2.Fun K "_law_is_schedule" "_law_is_schedule" st__law_is_schedule f fd) (hm : mg "_law_is_schedule" = some (.ref f)) (b : Binds K fd ["_law_roster_here", "_law_value"] []) : CalG P w K mg base 2 "_law_is_schedule" [.s, .s] .s F__law_is_schedule :=
  ⟨f, fd, ["_law_roster_here", "_law_value"], fnG_dl (sf := S__law_is_schedule) (mr := [.u, .u, .u, .u, .u]) (po := []) (r := 3) F sc__law_is_schedule rfl rfl (.stb rfl (.stb rfl (.nil _ _))) (.inl rfl) (fun cdv A outer s H E _ _ _ =>
      ss_cons (ds_if (pb_w (pbw_or (pb_not (pb_of (pd_isa "tuple" z_isinstance z_tuple bt_tuple (pd_var 1)))) (pbw_or1 (pb_cmp opNe (pd_b1 clLen z_len bt_len (pd_var 1)) (pd_b1 clLen z_len bt_len (pd_ix ixAny (pd_var 0) (pd_int)))))))
        (ss_one (ds_ret (pd_bool) (.cons (.u _) (.cons (.u _) (.cons (.rfl _) (.cons (.rfl _) (.cons (.rfl _) .nil)))))))
        (ss_nil))
      (ss_cons (ds_if (pb_cmp opNe (pd_frz (pd_lc [("_law_hour", 3)] (pi_seq (pd_var 1)) (pg_nm 3) (pts_if (pb_w (pbw_or (pb_not (pb_of (pd_call c__law_whole (pl_cons (pd_var 3) (pl_nil))))) (pbw_or1 (pb_not (pb_chain opLe opLe (pd_int) (pd_var 3) (pd_bin opPow (pd_int) (pd_int)))))))) (pd_var 3))) (pd_frz (pd_lst (k := 0) .s (pl_nil))))
        (ss_one (ds_ret (pd_bool) (.cons (.u _) (.cons (.u _) (.cons (.rfl _) (.cons (.rfl _) (.cons (.rfl _) .nil)))))))
        (ss_nil))
      (ss_cons (ds_for [.s, .s, .u, .u, .u] (pi_fg [2] (pi_r1 z_range (pd_b1 clLen z_len bt_len (pd_var 1))) (.cons (.rfl _) (.cons (.rfl _) (.cons (.rfl _) (.cons (.rfl _) (.cons (.rfl _) .nil)))))) (.cons (.rfl _) (.cons (.rfl _) (.cons (.rfl _) (.cons (.rfl _) (.cons (.rfl _) .nil))))) (pg_nm 2)
        (ss_post [2] [0, 1, 2, 3, 4] (ss_le (ss_one (ds_if (pb_cmp opNe (pd_frz (pd_lc [("_law_k", 4)] (pi_r1 z_range (pd_var 2)) (pg_nm 4) (pts_if (pb_w (pbw_and (pb_cmp opEq (pd_ix ixAny (pd_var 1) (pd_var 4)) (pd_ix ixAny (pd_var 1) (pd_var 2))) (pbw_and1 (pb_of (pd_call c__law_are_rivals (pl_cons (pd_var 0) (pl_cons (pd_var 4) (pl_cons (pd_var 2) (pl_nil)))))))))) (pd_var 4))) (pd_frz (pd_lst (k := 0) .s (pl_nil))))
        (ss_one (ds_ret (pd_bool) (.cons (.u _) (.cons (.u _) (.cons (.u _) (.cons (.rfl _) (.cons (.rfl _) .nil)))))))
        (ss_nil))) (.cons (.rfl _) (.cons (.rfl _) (.cons (.u _) (.cons (.rfl _) (.cons (.rfl _) .nil))))))) (.cons (.rfl _) (.cons (.rfl _) (.cons (.rfl _) (.cons (.rfl _) (.cons (.rfl _) .nil))))))
      (ss_one (ds_ret (pd_bool) (.cons (.u _) (.cons (.u _) (.cons (.rfl _) (.cons (.rfl _) (.cons (.rfl _) .nil)))))))))), hm, F.kp, b⟩
theorem cal__law_filled (c_insert_lesson : CalG P w K mg base 5 "insert_lesson" [.s, .s, .s, .s, .s] .s F_insert_lesson) (c__law_is_schedule : CalG P w K mg base 2 "_law_is_schedule" [.s, .s] .s F__law_is_schedule) (z_zip : mg "zip" = none) (z_tuple : mg "tuple" = none) (z_sorted : mg "sorted" = none) (z_set : mg "set" = none) (z_len : mg "len" = none) {f : Addr} {fd : FuncData} (F : L2.Fun K "_law_filled" "_law_filled" st__law_filled f fd) (hm : mg "_law_filled" = some (.ref f)) (b : Binds K fd ["_law_roster_here", "_law_order", "_law_hours"] []) : CalG P w K mg base 6 "_law_filled" [.s, .s, .s] .s F__law_filled :=
  ⟨f, fd, ["_law_roster_here", "_law_order", "_law_hours"], fnG_dl (sf := S__law_filled) (mr := [.u, .u, .u, .u, .u, .u, .u, .u, .u, .u, .u, .u, .u, .u]) (po := []) (r := 11) F sc__law_filled rfl rfl (.stb rfl (.stb rfl (.stb rfl (.nil _ _)))) (.inl rfl) (fun cdv A outer s H E _ _ _ =>
      ss_cons (ds_tg (pd_var 0) (pg_tp (k := 3) (pgs_cn (pg_nm 3) (pgs_cn (pg_nm 4) (pgs_cn (pg_nm 5) (pgs_nl))))))
      (ss_cons (ds_tg (pd_tup (k := 2) (pl_cons (pd_tup (k := 0) (pl_nil)) (pl_cons (pd_tup (k := 0) (pl_nil)) (pl_nil)))) (pg_tp (k := 2) (pgs_cn (pg_nm 6) (pgs_cn (pg_nm 7) (pgs_nl)))))
      (ss_cons (ds_for [.s, .s, .s, .s, .s, .s, .s, .s, .u, .u, .u, .u, .u, .u] (pi_fg [8, 9, 10] (pi_seq (pd_var 1)) (.cons (.rfl _) (.cons (.rfl _) (.cons (.rfl _) (.cons (.rfl _) (.cons (.rfl _) (.cons (.rfl _) (.cons (.rfl _) (.cons (.rfl _) (.cons (.rfl _) (.cons (.rfl _) (.cons (.rfl _) (.cons (.rfl _) (.cons (.rfl _) (.cons (.rfl _) .nil))))))))))))))) (.cons (.rfl _) (.cons (.rfl _) (.cons (.rfl _) (.cons (.rfl _) (.cons (.rfl _) (.cons (.rfl _) (.cons (.rfl _) (.cons (.rfl _) (.cons (.rfl _) (.cons (.rfl _) (.cons (.rfl _) (.cons (.rfl _) (.cons (.rfl _) (.cons (.rfl _) .nil)))))))))))))) (pg_nm 8)
        (ss_post [8, 9, 10] [0, 1, 2, 3, 4, 5, 6, 7, 8, 9, 10, 11, 12, 13] (ss_le (ss_cons (ds_asg 9 (pd_call c_insert_lesson (pl_cons (pd_tup (k := 3) (pl_cons (pd_var 3) (pl_cons (pd_var 4) (pl_cons (pd_var 7) (pl_nil))))) (pl_cons (pd_var 6) (pl_cons (pd_var 2) (pl_cons (pd_ix ixAny (pd_ix ixAny (pd_var 5) (pd_var 8)) (pd_int)) (pl_cons (pd_ix ixAny (pd_ix ixAny (pd_var 5) (pd_var 8)) (pd_int)) (pl_nil))))))))
      (ss_cons (ds_asg 7 (pd_bin opAdd (pd_var 7) (pd_tup (k := 1) (pl_cons (pd_ix ixAny (pd_var 5) (pd_var 8)) (pl_nil)))))
      (ss_cons (ds_if (pb_w (pbw_or (pb_not (pb_of (pd_call c__law_is_schedule (pl_cons (pd_tup (k := 3) (pl_cons (pd_var 3) (pl_cons (pd_var 4) (pl_cons (pd_var 7) (pl_nil))))) (pl_cons (pd_var 9) (pl_nil)))))) (pbw_or1 (pb_cmp opNe (pd_frz (pd_lc [("_law_hour", 11)] (pi_seq (pd_var 9)) (pg_nm 11) (pts_if (pb_cmp opGe (pd_var 11) (pd_var 2))) (pd_var 11))) (pd_frz (pd_lst (k := 0) .s (pl_nil)))))))
        (ss_one (ds_ret (pd_bool) (.cons (.u _) (.cons (.u _) (.cons (.u _) (.cons (.u _) (.cons (.u _) (.cons (.u _) (.cons (.u _) (.cons (.u _) (.cons (.u _) (.cons (.u _) (.cons (.rfl _) (.cons (.rfl _) (.cons (.rfl _) (.cons (.rfl _) .nil))))))))))))))))
        (ss_nil))
      (ss_cons (ds_asg 10 (pd_frz (pd_sortSetP z_sorted bt_sorted z_set bt_set (pd_frz (pd_lc [("_law_one", 12), ("_law_other", 13)] (pi_zp z_zip (pd_var 6) (pd_var 9)) (pg_tp (k := 2) (pgs_cn (pg_nm 12) (pgs_cn (pg_nm 13) (pgs_nl)))) (pts_if (pb_cmp opNe (pd_var 12) (pd_var 13))) (pd_t1 clTuple z_tuple bt_tuple (pd_frz (pd_b1 clSorted z_sorted bt_sorted (pd_frz (pd_lst (k := 2) .s (pl_cons (pd_var 12) (pl_cons (pd_var 13) (pl_nil)))))))))))))
      (ss_cons (ds_if (pb_cmp opGt (pd_b1 clLen z_len bt_len (pd_var 10)) (pd_int))
        (ss_one (ds_ret (pd_bool) (.cons (.u _) (.cons (.u _) (.cons (.u _) (.cons (.u _) (.cons (.u _) (.cons (.u _) (.cons (.u _) (.cons (.u _) (.cons (.u _) (.cons (.u _) (.cons (.u _) (.cons (.rfl _) (.cons (.rfl _) (.cons (.rfl _) .nil))))))))))))))))
        (ss_nil))
      (ss_one (ds_asg 6 (pd_var 9)))))))) (.cons (.rfl _) (.cons (.rfl _) (.cons (.rfl _) (.cons (.rfl _) (.cons (.rfl _) (.cons (.rfl _) (.cons (.rfl _) (.cons (.rfl _) (.cons (.u _) (.cons (.u _) (.cons (.u _) (.cons (.rfl _) (.cons (.rfl _) (.cons (.rfl _) .nil)))))))))))))))) (.cons (.rfl _) (.cons (.rfl _) (.cons (.rfl _) (.cons (.rfl _) (.cons (.rfl _) (.cons (.rfl _) (.cons (.rfl _) (.cons (.rfl _) (.cons (.rfl _) (.cons (.rfl _) (.cons (.rfl _) (.cons (.rfl _) (.cons (.rfl _) (.cons (.rfl _) .nil)))))))))))))))
      (ss_one (ds_ret (pd_bool) (.cons (.u _) (.cons (.u _) (.cons (.u _) (.cons (.u _) (.cons (.u _) (.cons (.u _) (.cons (.u _) (.cons (.u _) (.cons (.rfl _) (.cons (.rfl _) (.cons (.rfl _) (.cons (.rfl _) (.cons (.rfl _) (.cons (.rfl _) .nil))))))))))))))))))), hm, F.kp, b⟩
theorem cal_insert_lesson_x (c_free_hours : CalG P w K mg base 2 "free_hours" [.s, .s, .s, .s, .s] .s F_free_hours) (c_lessons_of : CalG P w K mg base 1 "lessons_of" [.s, .s, .s] .s F_lessons_of) (c_exchange : CalG P w K mg base 4 "exchange" [.s, .s, .s, .s] .s F_exchange) (z_len : mg "len" = none) {t_MAX_LESSONS : Tok} (g_MAX_LESSONS : mg "MAX_LESSONS" = some (.int 16 t_MAX_LESSONS)) (t_TooManyLessons : ExcT P w K mg base 1 "TooManyLessons" ["bound"]) (t_NoFreeHour : ExcT P w K mg base 1 "NoFreeHour" ["side", "person"]) {f : Addr} {fd : FuncData} (F : L2.Fun K "insert_lesson" "insert_lesson" st_insert_lesson f fd) (hm : mg "insert_lesson" = some (.ref f)) (b : Binds K fd ["roster", "schedule", "hours", "teacher", "group"] []) : CalX P w K mg base 5 "insert_lesson" [.s, .s, .s, .s, .s] .s (decF tb_insert_lesson_x F_insert_lesson_x) :=
  ⟨f, fd, ["roster", "schedule", "hours", "teacher", "group"], fnX_dlE tb_insert_lesson_x (sf := S_insert_lesson_x) (mr := [.u, .u, .u, .u, .u, .u, .u, .u, .u, .u, .u]) (mx := [.u, .u, .u, .u, .u, .u, .u, .u, .u, .u, .u]) (r := 6) F sc_insert_lesson rfl rfl (nnx_seq (nnx_seq (nnx_seq (nnx_seq (nnx_seq (nnx_seq (nnx_seq (nnx_seq (nnx_seq ((by first | exact nnx_ret | exact nnx_retE | exact nnx_retE1))))))))))) (fun cdv A outer s H E _ _ _ _ =>
      exs_cons (ex_if (pb_cmp opGe (pd_b1 clLen z_len bt_len (pd_ix ixAny (pd_var 0) (pd_int))) (pd_gint g_MAX_LESSONS))
        (exs_one (ex_raise ["bound"] t_TooManyLessons (pl_cons (pd_gint g_MAX_LESSONS) (pl_nil)) (.cons (.u _) (.cons (.u _) (.cons (.u _) (.cons (.u _) (.cons (.u _) (.cons (.rfl _) (.cons (.rfl _) (.cons (.rfl _) (.cons (.rfl _) (.cons (.rfl _) (.cons (.rfl _) .nil)))))))))))))
        (exs_of ss_nil nrt_nil))
      (exs_cons (ex_of (ds_asg 5 (pd_call c_free_hours (pl_cons (pd_var 0) (pl_cons (pd_var 1) (pl_cons (pd_var 2) (pl_cons (pd_str) (pl_cons (pd_var 3) (pl_nil)))))))) nrt_asg)
      (exs_cons (ex_if (pb_cmp opEq (pd_var 5) (pd_frz (pd_lst (k := 0) .s (pl_nil))))
        (exs_one (ex_raise ["side", "person"] t_NoFreeHour (pl_cons (pd_str) (pl_cons (pd_var 3) (pl_nil))) (.cons (.u _) (.cons (.u _) (.cons (.u _) (.cons (.u _) (.cons (.u _) (.cons (.u _) (.cons (.rfl _) (.cons (.rfl _) (.cons (.rfl _) (.cons (.rfl _) (.cons (.rfl _) .nil)))))))))))))
        (exs_of ss_nil nrt_nil))
      (exs_cons (ex_of (ds_asg 6 (pd_call c_free_hours (pl_cons (pd_var 0) (pl_cons (pd_var 1) (pl_cons (pd_var 2) (pl_cons (pd_str) (pl_cons (pd_var 4) (pl_nil)))))))) nrt_asg)
      (exs_cons (ex_if (pb_cmp opEq (pd_var 6) (pd_frz (pd_lst (k := 0) .s (pl_nil))))
        (exs_one (ex_raise ["side", "person"] t_NoFreeHour (pl_cons (pd_str) (pl_cons (pd_var 4) (pl_nil))) (.cons (.u _) (.cons (.u _) (.cons (.u _) (.cons (.u _) (.cons (.u _) (.cons (.u _) (.cons (.u _) (.cons (.rfl _) (.cons (.rfl _) (.cons (.rfl _) (.cons (.rfl _) .nil)))))))))))))
        (exs_of ss_nil nrt_nil))
      (exs_cons (ex_of (ds_setLc 7 [("hour", 8)] (pi_seq (pd_var 5)) (pg_nm 8) (pts_if (pb_cmp opIn (pd_var 8) (pd_var 6))) (pd_var 8)) nrt_asg)
      (exs_cons (ex_if (pb_cmp opNe (pd_frzVar 7) (pd_frz (pd_lst (k := 0) .s (pl_nil))))
        (exs_one (ex_ret (pd_bin opAdd (pd_var 1) (pd_tup (k := 1) (pl_cons (pd_ix ixAny (pd_var 7) (pd_int)) (pl_nil)))) (.cons (.u _) (.cons (.u _) (.cons (.u _) (.cons (.u _) (.cons (.u _) (.cons (.u _) (.cons (.u _) (.cons (.u _) (.cons (.rfl _) (.cons (.rfl _) (.cons (.rfl _) .nil)))))))))))))
        (exs_of ss_nil nrt_nil))
      (exs_cons (ex_of (ds_asg 8 (pd_ix ixAny (pd_var 5) (pd_int))) nrt_asg)
      (exs_cons (ex_of (ds_setLc 9 [("lesson", 10)] (pi_seq (pd_call c_lessons_of (pl_cons (pd_var 0) (pl_cons (pd_str) (pl_cons (pd_var 4) (pl_nil)))))) (pg_nm 10) (pts_if (pb_cmp opEq (pd_ix ixAny (pd_var 1) (pd_var 10)) (pd_var 8))) (pd_var 10)) nrt_asg)
      (exs_one (ex_ret (pd_bin opAdd (pd_call c_exchange (pl_cons (pd_var 0) (pl_cons (pd_var 1) (pl_cons (pd_ix ixAny (pd_frzVar 9) (pd_int)) (pl_cons (pd_ix ixAny (pd_var 6) (pd_int)) (pl_nil)))))) (pd_tup (k := 1) (pl_cons (pd_var 8) (pl_nil)))) (.cons (.u _) (.cons (.u _) (.cons (.u _) (.cons (.u _) (.cons (.u _) (.cons (.u _) (.cons (.u _) (.cons (.u _) (.cons (.u _) (.cons (.u _) (.cons (.rfl _) .nil)))))))))))))))))))))), hm, F.kp, b⟩
theorem cal__law_stuck (c_insert_lesson_x : CalX P w K mg base 5 "insert_lesson" [.s, .s, .s, .s, .s] .s (decF tb_insert_lesson_x F_insert_lesson_x)) (z_int : mg "int" = none) (z_len : mg "len" = none) {C_NoFreeHour : Addr} (g_NoFreeHour : mg "NoFreeHour" = some (.ref C_NoFreeHour)) (fld__law_stuck_t1 : FldT K mg tb__law_stuck_t1) (cb__law_stuck_t1_NoFreeHour : CatB K mg tb__law_stuck_t1 rt__law_stuck_t1_NoFreeHour (fun cls => PySem.W.exmOne K cls (.ref C_NoFreeHour))) {f : Addr} {fd : FuncData} (F : L2.Fun K "_law_stuck" "_law_stuck" st__law_stuck f fd) (hm : mg "_law_stuck" = some (.ref f)) (b : Binds K fd ["_law_roster_here", "_law_order", "_law_hours"] []) : CalG P w K mg base 6 "_law_stuck" [.s, .s, .s] .s F__law_stuck :=
  ⟨f, fd, ["_law_roster_here", "_law_order", "_law_hours"], fnG_dl (sf := S__law_stuck) (mr := [.u, .u, .u, .u, .u, .u, .u, .u, .u, .u, .u, .u]) (po := []) (r := 9) F sc__law_stuck rfl rfl (.stb rfl (.stb rfl (.stb rfl (.nil _ _)))) (.inl rfl) (fun cdv A outer s H E _ _ _ =>
      ss_cons (ds_tg (pd_var 0) (pg_tp (k := 3) (pgs_cn (pg_nm 3) (pgs_cn (pg_nm 4) (pgs_cn (pg_nm 5) (pgs_nl))))))
      (ss_cons (ds_tg (pd_tup (k := 2) (pl_cons (pd_tup (k := 0) (pl_nil)) (pl_cons (pd_tup (k := 0) (pl_nil)) (pl_nil)))) (pg_tp (k := 2) (pgs_cn (pg_nm 6) (pgs_cn (pg_nm 7) (pgs_nl)))))
      (ss_cons (ds_tryM (mn := [.s, .s, .s, .s, .s, .s, .s, .s, .u, .u, .u, .u]) (mx := [.s, .s, .s, .s, .s, .s, .s, .s, .u, .u, .u, .u]) tb__law_stuck_t1 9 (by exact (.as rt__law_stuck_t1_NoFreeHour (tst1 g_NoFreeHour) cb__law_stuck_t1_NoFreeHour (by exact fun a cls d fl c ht hc hd => ss_cons (ds_asg 10 (pd_t1 clInt z_int bt_int (pd_cmp opEq (pd_fldX 9 rfl hc ht hd fld__law_stuck_t1) (pd_str))) (hj := by simp)) (ss_one (ds_ret (pd_cmp opEq (pd_b1 clLen z_len bt_len (pd_frz (pd_lcH [("_law_row", 11)] (pi_seqH (pd_var 7)) (pg_nm 11 (hj := by first | decide | simp [DL.hideM])) (pts_if (pb_cmp opEq (pd_ix ixAny (pd_var 11) (pd_var 10)) (pd_fldX 9 rfl hc ht hd fld__law_stuck_t1))) (pd_var 11)))) (pd_var 2)) (.cons (.u _) (.cons (.u _) (.cons (.u _) (.cons (.u _) (.cons (.u _) (.cons (.u _) (.cons (.u _) (.cons (.u _) (.cons (.rfl _) (.cons (.u _) (.cons (.u _) (.cons (.rfl _) .nil))))))))))))))) (fun _ => rfl) (fun _ => .inr ⟨rfl, rfl⟩) .nil)) (fun _ => by exact exs_one (ex_for [.s, .s, .s, .s, .s, .s, .s, .s, .u, .u, .u, .u] (pi_fg [8] (pi_seq (pd_var 1)) (.cons (.rfl _) (.cons (.rfl _) (.cons (.rfl _) (.cons (.rfl _) (.cons (.rfl _) (.cons (.rfl _) (.cons (.rfl _) (.cons (.rfl _) (.cons (.rfl _) (.cons (.rfl _) (.cons (.rfl _) (.cons (.rfl _) .nil))))))))))))) (.cons (.rfl _) (.cons (.rfl _) (.cons (.rfl _) (.cons (.rfl _) (.cons (.rfl _) (.cons (.rfl _) (.cons (.rfl _) (.cons (.rfl _) (.cons (.rfl _) (.cons (.rfl _) (.cons (.rfl _) (.cons (.rfl _) .nil)))))))))))) (pg_nm 8) (exs_post [8] [8, 9, 10, 11] (sxs_le (exs_cons (ex_asgE (tw := tb__law_stuck_t1_insert_lesson_x) 6 c_insert_lesson_x (by unfold DL.SubT; decide) (by unfold DL.SubT; decide) (pl_cons (pd_tup (k := 3) (pl_cons (pd_var 3) (pl_cons (pd_var 4) (pl_cons (pd_var 7) (pl_nil))))) (pl_cons (pd_var 6) (pl_cons (pd_var 2) (pl_cons (pd_ix ixAny (pd_ix ixAny (pd_var 5) (pd_var 8)) (pd_int)) (pl_cons (pd_ix ixAny (pd_ix ixAny (pd_var 5) (pd_var 8)) (pd_int)) (pl_nil)))))) (.cons (.rfl _) (.cons (.rfl _) (.cons (.rfl _) (.cons (.rfl _) (.cons (.rfl _) (.cons (.rfl _) (.cons (.rfl _) (.cons (.rfl _) (.cons (.u _) (.cons (.rfl _) (.cons (.rfl _) (.cons (.rfl _) .nil))))))))))))) (exs_one (ex_of (ds_asg 7 (pd_bin opAdd (pd_var 7) (pd_tup (k := 1) (pl_cons (pd_ix ixAny (pd_var 5) (pd_var 8)) (pl_nil))))) nrt_asg))) (.cons (.rfl _) (.cons (.rfl _) (.cons (.rfl _) (.cons (.rfl _) (.cons (.rfl _) (.cons (.rfl _) (.cons (.rfl _) (.cons (.rfl _) (.cons (.u _) (.cons (.rfl _) (.cons (.rfl _) (.cons (.rfl _) .nil)))))))))))))) (.cons (.rfl _) (.cons (.rfl _) (.cons (.rfl _) (.cons (.rfl _) (.cons (.rfl _) (.cons (.rfl _) (.cons (.rfl _) (.cons (.rfl _) (.cons (.rfl _) (.cons (.rfl _) (.cons (.rfl _) (.cons (.rfl _) .nil)))))))))))))))
      (ss_one (ds_ret (pd_bool) (.cons (.u _) (.cons (.u _) (.cons (.u _) (.cons (.u _) (.cons (.u _) (.cons (.u _) (.cons (.u _) (.cons (.u _) (.cons (.rfl _) (.cons (.rfl _) (.cons (.rfl _) (.cons (.rfl _) .nil))))))))))))))))), hm, F.kp, b⟩
theorem fn_law (c__law_deck : CalG P w K mg base 1 "_law_deck" [.q] (.r [(.l .s), .s, .s, .s]) F__law_deck) (c__law_roster : CalG P w K mg base 2 "_law_roster" [(.r [(.l .s), .s, .s, .s]), .s] .s F__law_roster) (c__law_degree : CalG P w K mg base 2 "_law_degree" [.s] .s F__law_degree) (c__law_shuffled : CalG P w K mg base 2 "_law_shuffled" [(.r [(.l .s), .s, .s, .s]), .s] .s F__law_shuffled) (c__law_filled : CalG P w K mg base 6 "_law_filled" [.s, .s, .s] .s F__law_filled) (c__law_next : CalG P w K mg base 1 "_law_next" [(.r [(.l .s), .s, .s, .s]), .s] .s F__law_next) (c__law_stuck : CalG P w K mg base 6 "_law_stuck" [.s, .s, .s] .s F__law_stuck) (z_range : mg "range" = none) (z_list : mg "list" = none) (z_len : mg "len" = none) (z_max : mg "max" = none) {f : Addr} {fd : FuncData} (F : L2.Fun K "law" "law" st_law f fd) : FnG P w K mg base 7 f fd ["_law_script"] (spD K [.q] .s F_law) :=
  fnG_dl (sf := S_law) (mr := [.u, .u, .u, .u, .u, .u, .u]) (po := []) (r := 6) F sc_law rfl rfl (.stb rfl (.nil _ _)) (.inl rfl) (fun cdv A outer s H E _ _ _ =>
      ss_cons (ds_asg 1 (pd_callL (kk := 0) (j := 0) c__law_deck (pl_lend 0 (pl_nil))))
      (ss_cons (ds_for [.q, (.r [(.l .s), .s, .s, .s]), .u, .u, .u, .u, .u] (pi_fg [2, 3, 4, 5, 6] (pi_r1 z_range (pd_int)) (.cons (.rfl _) (.cons (.rfl _) (.cons (.rfl _) (.cons (.rfl _) (.cons (.rfl _) (.cons (.rfl _) (.cons (.rfl _) .nil)))))))) (.cons (.rfl _) (.cons (.rfl _) (.cons (.rfl _) (.cons (.rfl _) (.cons (.rfl _) (.cons (.rfl _) (.cons (.rfl _) .nil))))))) (pg_nm 2)
        (ss_post [2, 3, 4, 5, 6] [0, 1, 2, 3, 4, 5, 6] (ss_le (ss_cons (ds_asg 3 (pd_callL (kk := 0) (j := 1) c__law_roster (pl_lend 1 (pl_cons (pd_int) (pl_nil)))))
      (ss_cons (ds_asg 4 (pd_call c__law_degree (pl_cons (pd_var 3) (pl_nil))))
      (ss_one (ds_for [.q, (.r [(.l .s), .s, .s, .s]), .s, .s, .s, .u, .u] (pi_fg [5, 6] (pi_r1 z_range (pd_int)) (.cons (.rfl _) (.cons (.rfl _) (.cons (.rfl _) (.cons (.rfl _) (.cons (.rfl _) (.cons (.rfl _) (.cons (.rfl _) .nil)))))))) (.cons (.rfl _) (.cons (.rfl _) (.cons (.rfl _) (.cons (.rfl _) (.cons (.rfl _) (.cons (.rfl _) (.cons (.rfl _) .nil))))))) (pg_nm 5)
        (ss_post [5, 6] [0, 1, 2, 3, 4, 5, 6] (ss_le (ss_cons (ds_asg 6 (pd_callL (kk := 0) (j := 1) c__law_shuffled (pl_lend 1 (pl_cons (pd_frz (pd_lsR z_list (pr_1 z_range (pd_b1 clLen z_len bt_len (pd_ix ixAny (pd_var 3) (pd_int)))))) (pl_nil)))))
      (ss_cons (ds_if (pb_not (pb_of (pd_call c__law_filled (pl_cons (pd_var 3) (pl_cons (pd_var 6) (pl_cons (pd_bin opAdd (pd_b2 clMax2 z_max bt_max (pd_int) (pd_var 4)) (pd_ix ixAny (pd_frz (pd_lst (k := 3) .s (pl_cons (pd_int) (pl_cons (pd_int) (pl_cons (pd_int) (pl_nil)))))) (pd_callL (kk := 0) (j := 1) c__law_next (pl_lend 1 (pl_cons (pd_int) (pl_nil)))))) (pl_nil)))))))
        (ss_one (ds_ret (pd_bool) (.cons (.u _) (.cons (.u _) (.cons (.u _) (.cons (.u _) (.cons (.u _) (.cons (.u _) (.cons (.u _) .nil)))))))))
        (ss_nil))
      (ss_one (ds_if (pb_w (pbw_and (pb_cmp opGt (pd_var 4) (pd_int)) (pbw_and1 (pb_not (pb_of (pd_call c__law_stuck (pl_cons (pd_var 3) (pl_cons (pd_var 6) (pl_cons (pd_bin opSub (pd_var 4) (pd_int)) (pl_nil))))))))))
        (ss_one (ds_ret (pd_bool) (.cons (.u _) (.cons (.u _) (.cons (.u _) (.cons (.u _) (.cons (.u _) (.cons (.u _) (.cons (.u _) .nil)))))))))
        (ss_nil))))) (.cons (.rfl _) (.cons (.rfl _) (.cons (.rfl _) (.cons (.rfl _) (.cons (.rfl _) (.cons (.u _) (.cons (.u _) .nil))))))))) (.cons (.rfl _) (.cons (.rfl _) (.cons (.rfl _) (.cons (.rfl _) (.cons (.rfl _) (.cons (.rfl _) (.cons (.rfl _) .nil))))))))))) (.cons (.rfl _) (.cons (.rfl _) (.cons (.u _) (.cons (.u _) (.cons (.u _) (.cons (.rfl _) (.cons (.rfl _) .nil))))))))) (.cons (.rfl _) (.cons (.rfl _) (.cons (.rfl _) (.cons (.rfl _) (.cons (.rfl _) (.cons (.rfl _) (.cons (.rfl _) .nil))))))))
      (ss_one (ds_ret (pd_bool) (.cons (.u _) (.cons (.u _) (.cons (.rfl _) (.cons (.rfl _) (.cons (.rfl _) (.cons (.rfl _) (.cons (.rfl _) .nil)))))))))))
end
theorem all_mk {l : PySem.W.OpenLaw} {w : World} {K : PySem.W.Frag} {h : Heap} {mg : Str → Option Value} {fa f1 f2 f3 f4 f5 f6 f7 f8 f9 f10 f11 f12 f13 f14 f15 f16 f17 f18 f19 : Addr} (X : K.In h) (G : h.Ns mainGlobals mg) (hfa : mg "law" = some (.ref fa))
    {fd1 : FuncData}
    {fd2 : FuncData}
    {fd3 : FuncData}
    {fd4 : FuncData}
    {fd5 : FuncData}
    {fd6 : FuncData}
    {fd7 : FuncData}
    {fd8 : FuncData}
    {fd9 : FuncData}
    {fd10 : FuncData}
    {fd11 : FuncData}
    {fd12 : FuncData}
    {fd13 : FuncData}
    {fd14 : FuncData}
    {fd15 : FuncData}
    {fd16 : FuncData}
    {fd17 : FuncData}
    {fd18 : FuncData}
    {fd19 : FuncData}
    {C_TooManyLessons C_NoFreeHour : Addr}
    {fI_TooManyLessons : Addr} {fdI_TooManyLessons : FuncData}
    {fI_NoFreeHour : Addr} {fdI_NoFreeHour : FuncData}
    {t_MAX_LESSONS : Tok}
    (a1 : PySem.W.nsIn K mainGlobals "_law_deck" = some (some (.ref f1)))
    (F1 : L2.Fun K "_law_deck" "_law_deck" st__law_deck f1 fd1)
    (a2 : PySem.W.nsIn K mainGlobals "_law_next" = some (some (.ref f2)))
    (F2 : L2.Fun K "_law_next" "_law_next" st__law_next f2 fd2)
    (a3 : PySem.W.nsIn K mainGlobals "_law_roster" = some (some (.ref f3)))
    (F3 : L2.Fun K "_law_roster" "_law_roster" st__law_roster f3 fd3)
    (a4 : PySem.W.nsIn K mainGlobals "_law_degrees" = some (some (.ref f4)))
    (F4 : L2.Fun K "_law_degrees" "_law_degrees" st__law_degrees f4 fd4)
    (a5 : PySem.W.nsIn K mainGlobals "_law_degree" = some (some (.ref f5)))
    (F5 : L2.Fun K "_law_degree" "_law_degree" st__law_degree f5 fd5)
    (a6 : PySem.W.nsIn K mainGlobals "_law_shuffled" = some (some (.ref f6)))
    (F6 : L2.Fun K "_law_shuffled" "_law_shuffled" st__law_shuffled f6 fd6)
    (a7 : PySem.W.nsIn K mainGlobals "lessons_of" = some (some (.ref f7)))
    (F7 : L2.Fun K "lessons_of" "lessons_of" st_lessons_of f7 fd7)
    (a8 : PySem.W.nsIn K mainGlobals "free_hours" = some (some (.ref f8)))
    (F8 : L2.Fun K "free_hours" "free_hours" st_free_hours f8 fd8)
    (a9 : PySem.W.nsIn K mainGlobals "are_rivals" = some (some (.ref f9)))
    (F9 : L2.Fun K "are_rivals" "are_rivals" st_are_rivals f9 fd9)
    (a10 : PySem.W.nsIn K mainGlobals "rivals" = some (some (.ref f10)))
    (F10 : L2.Fun K "rivals" "rivals" st_rivals f10 fd10)
    (a11 : PySem.W.nsIn K mainGlobals "chain_of" = some (some (.ref f11)))
    (F11 : L2.Fun K "chain_of" "chain_of" st_chain_of f11 fd11)
    (a12 : PySem.W.nsIn K mainGlobals "exchange" = some (some (.ref f12)))
    (F12 : L2.Fun K "exchange" "exchange" st_exchange f12 fd12)
    (a13 : PySem.W.nsIn K mainGlobals "insert_lesson" = some (some (.ref f13)))
    (F13 : L2.Fun K "insert_lesson" "insert_lesson" st_insert_lesson f13 fd13)
    (a14 : PySem.W.nsIn K mainGlobals "_law_whole" = some (some (.ref f14)))
    (F14 : L2.Fun K "_law_whole" "_law_whole" st__law_whole f14 fd14)
    (a15 : PySem.W.nsIn K mainGlobals "_law_are_rivals" = some (some (.ref f15)))
    (F15 : L2.Fun K "_law_are_rivals" "_law_are_rivals" st__law_are_rivals f15 fd15)
    (a16 : PySem.W.nsIn K mainGlobals "_law_is_schedule" = some (some (.ref f16)))
    (F16 : L2.Fun K "_law_is_schedule" "_law_is_schedule" st__law_is_schedule f16 fd16)
    (a17 : PySem.W.nsIn K mainGlobals "_law_filled" = some (some (.ref f17)))
    (F17 : L2.Fun K "_law_filled" "_law_filled" st__law_filled f17 fd17)
    (a18 : PySem.W.nsIn K mainGlobals "_law_stuck" = some (some (.ref f18)))
    (F18 : L2.Fun K "_law_stuck" "_law_stuck" st__law_stuck f18 fd18)
    (a19 : PySem.W.nsIn K mainGlobals "law" = some (some (.ref f19)))
    (F19 : L2.Fun K "law" "law" st_law f19 fd19)
    (xa_TooManyLessons : PySem.W.nsIn K mainGlobals "TooManyLessons" = some (some (.ref C_TooManyLessons)))
    (xe_TooManyLessons : PySem.W.subIn K (.ref C_TooManyLessons) (.type "BaseException") = some true)
    (xt_TooManyLessons : PySem.W.typeIn K (.ref C_TooManyLessons) = some (.type "type"))
    (xh_TooManyLessons : PySem.W.hasDictIn K C_TooManyLessons = true)
    (xa_NoFreeHour : PySem.W.nsIn K mainGlobals "NoFreeHour" = some (some (.ref C_NoFreeHour)))
    (xe_NoFreeHour : PySem.W.subIn K (.ref C_NoFreeHour) (.type "BaseException") = some true)
    (xt_NoFreeHour : PySem.W.typeIn K (.ref C_NoFreeHour) = some (.type "type"))
    (xh_NoFreeHour : PySem.W.hasDictIn K C_NoFreeHour = true)
    (xz1 : PySem.W.specialIn K (.builtin "object.__class__") "__get__" = some (some (.builtin "getset_descriptor.__get__")))
    (xz2 : PySem.W.takesIn K (.builtin "object.__class__") = some true)
    (xl_TooManyLessons : DL.oexB "ValueError.__new__" K C_TooManyLessons = true)
    (xy_TooManyLessons : PySem.HandSPX.refsVE (DL.mroB K C_TooManyLessons) = true)
    (xs_TooManyLessons : PySem.W.findIn K (.ref C_TooManyLessons) "__setattr__" = some (some (.builtin "object.__setattr__")))
    (xg_TooManyLessons : PySem.W.findIn K (.ref C_TooManyLessons) "__getattribute__" = some (some (.builtin "BaseException.__getattribute__")))
    (xq_TooManyLessons : PySem.W.findIn K (.ref C_TooManyLessons) "__getattr__" = some none)
    (xb_TooManyLessons : PySem.W.findIn K (.ref C_TooManyLessons) "__class__" = some (some (.builtin "object.__class__")))
    (xm_TooManyLessons : PySem.W.mroIn K C_TooManyLessons (.type "object") = some true)
    (xp_TooManyLessons : PySem.W.keepIn K (.ref C_TooManyLessons) = true)
    (xn_TooManyLessons_bound : PySem.W.findIn K (.ref C_TooManyLessons) "bound" = some none)
    (xi_TooManyLessons : PySem.W.findIn K (.ref C_TooManyLessons) "__init__" = some (some (.ref fI_TooManyLessons)))
    (xj_TooManyLessons : PySem.W.typeIn K (.ref fI_TooManyLessons) = some (.type "function"))
    (FI_TooManyLessons : L2.Fun K "__init__" "TooManyLessons.__init__" ini_TooManyLessons fI_TooManyLessons fdI_TooManyLessons)
    (xl_NoFreeHour : DL.oexB "ValueError.__new__" K C_NoFreeHour = true)
    (xy_NoFreeHour : PySem.HandSPX.refsVE (DL.mroB K C_NoFreeHour) = true)
    (xs_NoFreeHour : PySem.W.findIn K (.ref C_NoFreeHour) "__setattr__" = some (some (.builtin "object.__setattr__")))
    (xg_NoFreeHour : PySem.W.findIn K (.ref C_NoFreeHour) "__getattribute__" = some (some (.builtin "BaseException.__getattribute__")))
    (xq_NoFreeHour : PySem.W.findIn K (.ref C_NoFreeHour) "__getattr__" = some none)
    (xb_NoFreeHour : PySem.W.findIn K (.ref C_NoFreeHour) "__class__" = some (some (.builtin "object.__class__")))
    (xm_NoFreeHour : PySem.W.mroIn K C_NoFreeHour (.type "object") = some true)
    (xp_NoFreeHour : PySem.W.keepIn K (.ref C_NoFreeHour) = true)
    (xn_NoFreeHour_side : PySem.W.findIn K (.ref C_NoFreeHour) "side" = some none)
    (xn_NoFreeHour_person : PySem.W.findIn K (.ref C_NoFreeHour) "person" = some none)
    (xi_NoFreeHour : PySem.W.findIn K (.ref C_NoFreeHour) "__init__" = some (some (.ref fI_NoFreeHour)))
    (xj_NoFreeHour : PySem.W.typeIn K (.ref fI_NoFreeHour) = some (.type "function"))
    (FI_NoFreeHour : L2.Fun K "__init__" "NoFreeHour.__init__" ini_NoFreeHour fI_NoFreeHour fdI_NoFreeHour)
    (xu_NoFreeHour_NoFreeHour : PySem.W.subIn K (.ref C_NoFreeHour) (.ref C_NoFreeHour) = some true)
    (z_abs : PySem.W.nsIn K mainGlobals "abs" = some none)
    (z_len : PySem.W.nsIn K mainGlobals "len" = some none)
    (z_int : PySem.W.nsIn K mainGlobals "int" = some none)
    (z_range : PySem.W.nsIn K mainGlobals "range" = some none)
    (z_tuple : PySem.W.nsIn K mainGlobals "tuple" = some none)
    (z_max : PySem.W.nsIn K mainGlobals "max" = some none)
    (z_list : PySem.W.nsIn K mainGlobals "list" = some none)
    (z_enumerate : PySem.W.nsIn K mainGlobals "enumerate" = some none)
    (z_sorted : PySem.W.nsIn K mainGlobals "sorted" = some none)
    (z_isinstance : PySem.W.nsIn K mainGlobals "isinstance" = some none)
    (z_bool : PySem.W.nsIn K mainGlobals "bool" = some none)
    (z_zip : PySem.W.nsIn K mainGlobals "zip" = some none)
    (z_set : PySem.W.nsIn K mainGlobals "set" = some none)
    (g_MAX_LESSONS : PySem.W.nsIn K mainGlobals "MAX_LESSONS" = some (some (.int 16 t_MAX_LESSONS))) :
    ∃ fd : FuncData, (∀ (s : Shared) (v : Value), BindsTo s fd ⟨[v], []⟩ [("_law_script", v)]) ∧ ∀ base : Heap, K.In base → base.Ns mainGlobals mg → FnG l.prog w K mg base 7 fa fd ["_law_script"] (spD K [.q] .s F_law) := by
  have e := hfa.symm.trans (PySem.W.mg_of X G a19)
  cases e
  have b1 := F1.binds (ps := ["_law_script"]) fun _ _ _ _ _ _ us hl => match us, hl with | [_], _ => rfl
  have b2 := F2.binds (ps := ["_law_deck_here", "_law_many"]) fun _ _ _ _ _ _ us hl => match us, hl with | [_, _], _ => rfl
  have b3 := F3.binds (ps := ["_law_deck_here", "_law_most"]) fun _ _ _ _ _ _ us hl => match us, hl with | [_, _], _ => rfl
  have b4 := F4.binds (ps := ["_law_roster_here"]) fun _ _ _ _ _ _ us hl => match us, hl with | [_], _ => rfl
  have b5 := F5.binds (ps := ["_law_roster_here"]) fun _ _ _ _ _ _ us hl => match us, hl with | [_], _ => rfl
  have b6 := F6.binds (ps := ["_law_deck_here", "_law_items"]) fun _ _ _ _ _ _ us hl => match us, hl with | [_, _], _ => rfl
  have b7 := F7.binds (ps := ["roster", "side", "person"]) fun _ _ _ _ _ _ us hl => match us, hl with | [_, _, _], _ => rfl
  have b8 := F8.binds (ps := ["roster", "schedule", "hours", "side", "person"]) fun _ _ _ _ _ _ us hl => match us, hl with | [_, _, _, _, _], _ => rfl
  have b9 := F9.binds (ps := ["roster", "one", "other"]) fun _ _ _ _ _ _ us hl => match us, hl with | [_, _, _], _ => rfl
  have b10 := F10.binds (ps := ["roster", "lesson"]) fun _ _ _ _ _ _ us hl => match us, hl with | [_, _], _ => rfl
  have b11 := F11.binds (ps := ["roster", "schedule", "lesson", "hour"]) fun _ _ _ _ _ _ us hl => match us, hl with | [_, _, _, _], _ => rfl
  have b12 := F12.binds (ps := ["roster", "schedule", "lesson", "hour"]) fun _ _ _ _ _ _ us hl => match us, hl with | [_, _, _, _], _ => rfl
  have b13 := F13.binds (ps := ["roster", "schedule", "hours", "teacher", "group"]) fun _ _ _ _ _ _ us hl => match us, hl with | [_, _, _, _, _], _ => rfl
  have b14 := F14.binds (ps := ["_law_value"]) fun _ _ _ _ _ _ us hl => match us, hl with | [_], _ => rfl
  have b15 := F15.binds (ps := ["_law_roster_here", "_law_one", "_law_other"]) fun _ _ _ _ _ _ us hl => match us, hl with | [_, _, _], _ => rfl
  have b16 := F16.binds (ps := ["_law_roster_here", "_law_value"]) fun _ _ _ _ _ _ us hl => match us, hl with | [_, _], _ => rfl
  have b17 := F17.binds (ps := ["_law_roster_here", "_law_order", "_law_hours"]) fun _ _ _ _ _ _ us hl => match us, hl with | [_, _, _], _ => rfl
  have b18 := F18.binds (ps := ["_law_roster_here", "_law_order", "_law_hours"]) fun _ _ _ _ _ _ us hl => match us, hl with | [_, _, _], _ => rfl
  obtain ⟨oc, od, kV, dc, pm, an, cd, ct, osl, rfl, lkL, cdL⟩ := F19.ex
  refine ⟨PySem.W.fnOf "law" "law" (defArgs st_law) (defBody st_law) (defScope st_law) .none kV dc pm an cd ct, fun s v => .of_eq rfl, fun base _ _ => ?_⟩
  have y_abs := PySem.W.mg_none_of X G z_abs
  have y_len := PySem.W.mg_none_of X G z_len
  have y_int := PySem.W.mg_none_of X G z_int
  have y_range := PySem.W.mg_none_of X G z_range
  have y_tuple := PySem.W.mg_none_of X G z_tuple
  have y_max := PySem.W.mg_none_of X G z_max
  have y_list := PySem.W.mg_none_of X G z_list
  have y_enumerate := PySem.W.mg_none_of X G z_enumerate
  have y_sorted := PySem.W.mg_none_of X G z_sorted
  have y_isinstance := PySem.W.mg_none_of X G z_isinstance
  have y_bool := PySem.W.mg_none_of X G z_bool
  have y_zip := PySem.W.mg_none_of X G z_zip
  have y_set := PySem.W.mg_none_of X G z_set
  have h_MAX_LESSONS := PySem.W.mg_of X G g_MAX_LESSONS
  have h_TooManyLessons := PySem.W.mg_of X G xa_TooManyLessons
  have h_NoFreeHour := PySem.W.mg_of X G xa_NoFreeHour
  have O_TooManyLessons : OexC K C_TooManyLessons := oexc_of xl_TooManyLessons xy_TooManyLessons xs_TooManyLessons xe_TooManyLessons xt_TooManyLessons xp_TooManyLessons
  have E_TooManyLessons : ExcC K C_TooManyLessons := ⟨xg_TooManyLessons, xq_TooManyLessons, xe_TooManyLessons, xh_TooManyLessons, xb_TooManyLessons, xz1, xz2, xm_TooManyLessons⟩
  have V_TooManyLessons : XfC K C_TooManyLessons := ⟨xg_TooManyLessons, xq_TooManyLessons, xe_TooManyLessons, xh_TooManyLessons⟩
  have bI_TooManyLessons := FI_TooManyLessons.binds (ps := ["self", "bound"]) fun _ _ _ _ _ _ us hl => match us, hl with | [_, _], _ => rfl
  have T_TooManyLessons : ExcT l.prog w K mg base 1 "TooManyLessons" ["bound"] := ⟨C_TooManyLessons, fI_TooManyLessons, _, _, O_TooManyLessons, h_TooManyLessons, xi_TooManyLessons, xj_TooManyLessons, init1 FI_TooManyLessons sci_TooManyLessons rfl O_TooManyLessons xn_TooManyLessons_bound (by first | exact Or.inl rfl | exact Or.inr (Or.inl rfl) | exact Or.inr (Or.inr rfl)) (by first | exact Or.inl rfl | exact Or.inr (Or.inl rfl) | exact Or.inr (Or.inr rfl)), bI_TooManyLessons⟩
  have O_NoFreeHour : OexC K C_NoFreeHour := oexc_of xl_NoFreeHour xy_NoFreeHour xs_NoFreeHour xe_NoFreeHour xt_NoFreeHour xp_NoFreeHour
  have E_NoFreeHour : ExcC K C_NoFreeHour := ⟨xg_NoFreeHour, xq_NoFreeHour, xe_NoFreeHour, xh_NoFreeHour, xb_NoFreeHour, xz1, xz2, xm_NoFreeHour⟩
  have V_NoFreeHour : XfC K C_NoFreeHour := ⟨xg_NoFreeHour, xq_NoFreeHour, xe_NoFreeHour, xh_NoFreeHour⟩
  have bI_NoFreeHour := FI_NoFreeHour.binds (ps := ["self", "side", "person"]) fun _ _ _ _ _ _ us hl => match us, hl with | [_, _, _], _ => rfl
  have T_NoFreeHour : ExcT l.prog w K mg base 1 "NoFreeHour" ["side", "person"] := ⟨C_NoFreeHour, fI_NoFreeHour, _, _, O_NoFreeHour, h_NoFreeHour, xi_NoFreeHour, xj_NoFreeHour, init2 FI_NoFreeHour sci_NoFreeHour rfl O_NoFreeHour xn_NoFreeHour_side xn_NoFreeHour_person (by first | exact Or.inl rfl | exact Or.inr (Or.inl rfl) | exact Or.inr (Or.inr rfl)) (by first | exact Or.inl rfl | exact Or.inr (Or.inl rfl) | exact Or.inr (Or.inr rfl)) (by first | exact Or.inl rfl | exact Or.inr (Or.inl rfl) | exact Or.inr (Or.inr rfl)), bI_NoFreeHour⟩
  have fld__law_stuck_t1 : FldT K mg tb__law_stuck_t1 := ct_cons (p := fun c l => ∃ D, mg c = some (.ref D) ∧ XfC K D ∧ ∀ f ∈ l, PySem.W.findIn K (.ref D) f = some none) ⟨C_NoFreeHour, h_NoFreeHour, V_NoFreeHour, fun f hf => (List.mem_cons.mp hf).elim (fun z => by rw [z]; exact xn_NoFreeHour_person) fun hf => (List.mem_cons.mp hf).elim (fun z => by rw [z]; exact xn_NoFreeHour_side) fun hf => nomatch hf⟩ (ct_nil)
  have cb__law_stuck_t1_NoFreeHour : CatB K mg tb__law_stuck_t1 rt__law_stuck_t1_NoFreeHour (fun cls => PySem.W.exmOne K cls (.ref C_NoFreeHour)) := ct_cons (p := fun c _ => ∃ C b, mg c = some (.ref C) ∧ rt__law_stuck_t1_NoFreeHour.lookup c = some b ∧ (fun cls => PySem.W.exmOne K cls (.ref C_NoFreeHour)) (.ref C) = some b) ⟨C_NoFreeHour, true, h_NoFreeHour, rfl, PySem.W.exm_ref xe_NoFreeHour xh_NoFreeHour xt_NoFreeHour xu_NoFreeHour_NoFreeHour⟩ (ct_nil)
  have C__law_deck := cal__law_deck (P := l.prog) (w := w) (base := base) (mg := mg) y_abs y_len F1 (PySem.W.mg_of X G a1) b1
  have C__law_next := cal__law_next (P := l.prog) (w := w) (base := base) (mg := mg) y_int F2 (PySem.W.mg_of X G a2) b2
  have C__law_roster := cal__law_roster (P := l.prog) (w := w) (base := base) (mg := mg) C__law_next y_range y_tuple F3 (PySem.W.mg_of X G a3) b3
  have C__law_degrees := cal__law_degrees (P := l.prog) (w := w) (base := base) (mg := mg) y_range y_len F4 (PySem.W.mg_of X G a4) b4
  have C__law_degree := cal__law_degree (P := l.prog) (w := w) (base := base) (mg := mg) C__law_degrees y_max F5 (PySem.W.mg_of X G a5) b5
  have C__law_shuffled := cal__law_shuffled (P := l.prog) (w := w) (base := base) (mg := mg) C__law_next y_list y_len F6 (PySem.W.mg_of X G a6) b6
  have C_lessons_of := cal_lessons_of (P := l.prog) (w := w) (base := base) (mg := mg) y_enumerate F7 (PySem.W.mg_of X G a7) b7
  have C_free_hours := cal_free_hours (P := l.prog) (w := w) (base := base) (mg := mg) C_lessons_of y_range F8 (PySem.W.mg_of X G a8) b8
  have C_are_rivals := cal_are_rivals (P := l.prog) (w := w) (base := base) (mg := mg)  F9 (PySem.W.mg_of X G a9) b9
  have C_rivals := cal_rivals (P := l.prog) (w := w) (base := base) (mg := mg) C_are_rivals y_tuple y_range y_len F10 (PySem.W.mg_of X G a10) b10
  have C_chain_of := cal_chain_of (P := l.prog) (w := w) (base := base) (mg := mg) C_rivals y_len y_tuple y_sorted F11 (PySem.W.mg_of X G a11) b11
  have C_exchange := cal_exchange (P := l.prog) (w := w) (base := base) (mg := mg) C_chain_of y_tuple y_enumerate F12 (PySem.W.mg_of X G a12) b12
  have C_insert_lesson := cal_insert_lesson (P := l.prog) (w := w) (base := base) (mg := mg) C_free_hours C_lessons_of C_exchange y_len h_MAX_LESSONS F13 (PySem.W.mg_of X G a13) b13
  have C__law_whole := cal__law_whole (P := l.prog) (w := w) (base := base) (mg := mg) y_isinstance y_int y_bool F14 (PySem.W.mg_of X G a14) b14
  have C__law_are_rivals := cal__law_are_rivals (P := l.prog) (w := w) (base := base) (mg := mg)  F15 (PySem.W.mg_of X G a15) b15
  have C__law_is_schedule := cal__law_is_schedule (P := l.prog) (w := w) (base := base) (mg := mg) C__law_whole C__law_are_rivals y_isinstance y_tuple y_len y_range F16 (PySem.W.mg_of X G a16) b16
  have C__law_filled := cal__law_filled (P := l.prog) (w := w) (base := base) (mg := mg) C_insert_lesson C__law_is_schedule y_zip y_tuple y_sorted y_set y_len F17 (PySem.W.mg_of X G a17) b17
  have C_insert_lesson_x := cal_insert_lesson_x (P := l.prog) (w := w) (base := base) (mg := mg) C_free_hours C_lessons_of C_exchange y_len h_MAX_LESSONS T_TooManyLessons T_NoFreeHour F13 (PySem.W.mg_of X G a13) b13
  have C__law_stuck := cal__law_stuck (P := l.prog) (w := w) (base := base) (mg := mg) C_insert_lesson_x y_int y_len h_NoFreeHour fld__law_stuck_t1 cb__law_stuck_t1_NoFreeHour F18 (PySem.W.mg_of X G a18) b18
  exact fn_law C__law_deck C__law_roster C__law_degree C__law_shuffled C__law_filled C__law_next C__law_stuck y_range y_list y_len y_max F19
end LK
namespace LK
open PySem PySem.Spec PyProof.Rows L2 DL
set_option maxHeartbeats 0
def hd0 : List He.DefD := [⟨("_law_deck", none), "_law_deck", "_law_deck", defArgs st__law_deck, defBody st__law_deck, defScope st__law_deck, [], []⟩,
  ⟨("_law_next", none), "_law_next", "_law_next", defArgs st__law_next, defBody st__law_next, defScope st__law_next, [], []⟩,
  ⟨("_law_roster", none), "_law_roster", "_law_roster", defArgs st__law_roster, defBody st__law_roster, defScope st__law_roster, [], []⟩,
  ⟨("_law_degrees", none), "_law_degrees", "_law_degrees", defArgs st__law_degrees, defBody st__law_degrees, defScope st__law_degrees, [], []⟩,
  ⟨("_law_degree", none), "_law_degree", "_law_degree", defArgs st__law_degree, defBody st__law_degree, defScope st__law_degree, [], []⟩,
  ⟨("_law_shuffled", none), "_law_shuffled", "_law_shuffled", defArgs st__law_shuffled, defBody st__law_shuffled, defScope st__law_shuffled, [], []⟩,
  ⟨("lessons_of", none), "lessons_of", "lessons_of", defArgs st_lessons_of, defBody st_lessons_of, defScope st_lessons_of, [], []⟩,
  ⟨("free_hours", none), "free_hours", "free_hours", defArgs st_free_hours, defBody st_free_hours, defScope st_free_hours, [], []⟩,
  ⟨("are_rivals", none), "are_rivals", "are_rivals", defArgs st_are_rivals, defBody st_are_rivals, defScope st_are_rivals, [], []⟩,
  ⟨("rivals", none), "rivals", "rivals", defArgs st_rivals, defBody st_rivals, defScope st_rivals, [], []⟩,
  ⟨("chain_of", none), "chain_of", "chain_of", defArgs st_chain_of, defBody st_chain_of, defScope st_chain_of, [], []⟩,
  ⟨("exchange", none), "exchange", "exchange", defArgs st_exchange, defBody st_exchange, defScope st_exchange, [], []⟩,
  ⟨("insert_lesson", none), "insert_lesson", "insert_lesson", defArgs st_insert_lesson, defBody st_insert_lesson, defScope st_insert_lesson, [], []⟩,
  ⟨("_law_whole", none), "_law_whole", "_law_whole", defArgs st__law_whole, defBody st__law_whole, defScope st__law_whole, [], []⟩,
  ⟨("_law_are_rivals", none), "_law_are_rivals", "_law_are_rivals", defArgs st__law_are_rivals, defBody st__law_are_rivals, defScope st__law_are_rivals, [], []⟩,
  ⟨("_law_is_schedule", none), "_law_is_schedule", "_law_is_schedule", defArgs st__law_is_schedule, defBody st__law_is_schedule, defScope st__law_is_schedule, [], []⟩,
  ⟨("_law_filled", none), "_law_filled", "_law_filled", defArgs st__law_filled, defBody st__law_filled, defScope st__law_filled, [], []⟩,
  ⟨("_law_stuck", none), "_law_stuck", "_law_stuck", defArgs st__law_stuck, defBody st__law_stuck, defScope st__law_stuck, [], []⟩,
  ⟨("law", none), "law", "law", defArgs st_law, defBody st_law, defScope st_law, [], []⟩,
  ⟨("TooManyLessons", some "__init__"), "__init__", "TooManyLessons.__init__", defArgs ini_TooManyLessons, defBody ini_TooManyLessons, defScope ini_TooManyLessons, [], []⟩,
  ⟨("NoFreeHour", some "__init__"), "__init__", "NoFreeHour.__init__", defArgs ini_NoFreeHour, defBody ini_NoFreeHour, defScope ini_NoFreeHour, [], []⟩]
def hdefs : List He.DefD := hd0
def hb0 (K : PySem.W.Frag) : List Bool := [decide (PySem.W.nsIn K mainGlobals "_law_deck" = some (some (.ref (He.ga K "_law_deck")))),
  decide (PySem.W.nsIn K mainGlobals "_law_next" = some (some (.ref (He.ga K "_law_next")))),
  decide (PySem.W.nsIn K mainGlobals "_law_roster" = some (some (.ref (He.ga K "_law_roster")))),
  decide (PySem.W.nsIn K mainGlobals "_law_degrees" = some (some (.ref (He.ga K "_law_degrees")))),
  decide (PySem.W.nsIn K mainGlobals "_law_degree" = some (some (.ref (He.ga K "_law_degree")))),
  decide (PySem.W.nsIn K mainGlobals "_law_shuffled" = some (some (.ref (He.ga K "_law_shuffled")))),
  decide (PySem.W.nsIn K mainGlobals "lessons_of" = some (some (.ref (He.ga K "lessons_of")))),
  decide (PySem.W.nsIn K mainGlobals "free_hours" = some (some (.ref (He.ga K "free_hours")))),
  decide (PySem.W.nsIn K mainGlobals "are_rivals" = some (some (.ref (He.ga K "are_rivals")))),
  decide (PySem.W.nsIn K mainGlobals "rivals" = some (some (.ref (He.ga K "rivals")))),
  decide (PySem.W.nsIn K mainGlobals "chain_of" = some (some (.ref (He.ga K "chain_of")))),
  decide (PySem.W.nsIn K mainGlobals "exchange" = some (some (.ref (He.ga K "exchange")))),
  decide (PySem.W.nsIn K mainGlobals "insert_lesson" = some (some (.ref (He.ga K "insert_lesson")))),
  decide (PySem.W.nsIn K mainGlobals "_law_whole" = some (some (.ref (He.ga K "_law_whole")))),
  decide (PySem.W.nsIn K mainGlobals "_law_are_rivals" = some (some (.ref (He.ga K "_law_are_rivals")))),
  decide (PySem.W.nsIn K mainGlobals "_law_is_schedule" = some (some (.ref (He.ga K "_law_is_schedule")))),
  decide (PySem.W.nsIn K mainGlobals "_law_filled" = some (some (.ref (He.ga K "_law_filled")))),
  decide (PySem.W.nsIn K mainGlobals "_law_stuck" = some (some (.ref (He.ga K "_law_stuck")))),
  decide (PySem.W.nsIn K mainGlobals "law" = some (some (.ref (He.ga K "law")))),
  decide (PySem.W.nsIn K mainGlobals "TooManyLessons" = some (some (.ref (He.ga K "TooManyLessons")))),
  decide (PySem.W.subIn K (.ref (He.ga K "TooManyLessons")) (.type "BaseException") = some true),
  decide (PySem.W.typeIn K (.ref (He.ga K "TooManyLessons")) = some (.type "type")),
  PySem.W.hasDictIn K (He.ga K "TooManyLessons"),
  decide (PySem.W.nsIn K mainGlobals "NoFreeHour" = some (some (.ref (He.ga K "NoFreeHour")))),
  decide (PySem.W.subIn K (.ref (He.ga K "NoFreeHour")) (.type "BaseException") = some true),
  decide (PySem.W.typeIn K (.ref (He.ga K "NoFreeHour")) = some (.type "type")),
  PySem.W.hasDictIn K (He.ga K "NoFreeHour"),
  decide (PySem.W.specialIn K (.builtin "object.__class__") "__get__" = some (some (.builtin "getset_descriptor.__get__"))),
  decide (PySem.W.takesIn K (.builtin "object.__class__") = some true),
  DL.oexB "ValueError.__new__" K (He.ga K "TooManyLessons")]
def hb1 (K : PySem.W.Frag) : List Bool := [PySem.HandSPX.refsVE (DL.mroB K (He.ga K "TooManyLessons")),
  decide (PySem.W.findIn K (.ref (He.ga K "TooManyLessons")) "__setattr__" = some (some (.builtin "object.__setattr__"))),
  decide (PySem.W.findIn K (.ref (He.ga K "TooManyLessons")) "__getattribute__" = some (some (.builtin "BaseException.__getattribute__"))),
  decide (PySem.W.findIn K (.ref (He.ga K "TooManyLessons")) "__getattr__" = some none),
  decide (PySem.W.findIn K (.ref (He.ga K "TooManyLessons")) "__class__" = some (some (.builtin "object.__class__"))),
  decide (PySem.W.mroIn K (He.ga K "TooManyLessons") (.type "object") = some true),
  PySem.W.keepIn K (.ref (He.ga K "TooManyLessons")),
  decide (PySem.W.findIn K (.ref (He.ga K "TooManyLessons")) "bound" = some none),
  decide (PySem.W.findIn K (.ref (He.ga K "TooManyLessons")) "__init__" = some (some (.ref (He.ma K (He.ga K "TooManyLessons") "__init__")))),
  decide (PySem.W.typeIn K (.ref (He.ma K (He.ga K "TooManyLessons") "__init__")) = some (.type "function")),
  DL.oexB "ValueError.__new__" K (He.ga K "NoFreeHour"),
  PySem.HandSPX.refsVE (DL.mroB K (He.ga K "NoFreeHour")),
  decide (PySem.W.findIn K (.ref (He.ga K "NoFreeHour")) "__setattr__" = some (some (.builtin "object.__setattr__"))),
  decide (PySem.W.findIn K (.ref (He.ga K "NoFreeHour")) "__getattribute__" = some (some (.builtin "BaseException.__getattribute__"))),
  decide (PySem.W.findIn K (.ref (He.ga K "NoFreeHour")) "__getattr__" = some none),
  decide (PySem.W.findIn K (.ref (He.ga K "NoFreeHour")) "__class__" = some (some (.builtin "object.__class__"))),
  decide (PySem.W.mroIn K (He.ga K "NoFreeHour") (.type "object") = some true),
  PySem.W.keepIn K (.ref (He.ga K "NoFreeHour")),
  decide (PySem.W.findIn K (.ref (He.ga K "NoFreeHour")) "side" = some none),
  decide (PySem.W.findIn K (.ref (He.ga K "NoFreeHour")) "person" = some none),
  decide (PySem.W.findIn K (.ref (He.ga K "NoFreeHour")) "__init__" = some (some (.ref (He.ma K (He.ga K "NoFreeHour") "__init__")))),
  decide (PySem.W.typeIn K (.ref (He.ma K (He.ga K "NoFreeHour") "__init__")) = some (.type "function")),
  decide (PySem.W.subIn K (.ref (He.ga K "NoFreeHour")) (.ref (He.ga K "NoFreeHour")) = some true),
  decide (PySem.W.nsIn K mainGlobals "abs" = some none),
  decide (PySem.W.nsIn K mainGlobals "len" = some none),
  decide (PySem.W.nsIn K mainGlobals "int" = some none),
  decide (PySem.W.nsIn K mainGlobals "range" = some none),
  decide (PySem.W.nsIn K mainGlobals "tuple" = some none),
  decide (PySem.W.nsIn K mainGlobals "max" = some none),
  decide (PySem.W.nsIn K mainGlobals "list" = some none)]
def hb2 (K : PySem.W.Frag) : List Bool := [decide (PySem.W.nsIn K mainGlobals "enumerate" = some none),
  decide (PySem.W.nsIn K mainGlobals "sorted" = some none),
  decide (PySem.W.nsIn K mainGlobals "isinstance" = some none),
  decide (PySem.W.nsIn K mainGlobals "bool" = some none),
  decide (PySem.W.nsIn K mainGlobals "zip" = some none),
  decide (PySem.W.nsIn K mainGlobals "set" = some none),
  (He.Fa.int "MAX_LESSONS" 16).ok K]
def hex (K : PySem.W.Frag) : Bool := ((hb0 K).all id && ((hb1 K).all id && ((hb2 K).all id && true)))
def hn0 : List PySem.Str := ["MAX_LESSONS", "lessons_of", "are_rivals", "rivals", "chain_of", "exchange", "free_hours", "insert_lesson", "_law_deck", "_law_next", "_law_roster", "_law_degrees", "_law_degree", "_law_shuffled", "_law_whole", "_law_are_rivals", "_law_is_schedule", "_law_filled", "_law_stuck", "ListError", "TooManyLessons", "NoFreeHour"]
def hnames : List PySem.Str := hn0
abbrev hR : PySem.W.OpenRow := PySem.W.OpenLaw.row PySem.Challenge.rw_listedges_k59_whole_rosters_built
abbrev hk : PySem.W.Hook := He.hookX 5 [] hdefs [] [] hex
def hob (s : PySem.W.SharedT) : He.AlX := He.obsX 5 [] hdefs [] [] hex (HandSHeadRun.getT s)
theorem hob_eq (s : PySem.W.SharedT) : hob s = hk.obs s.abs := He.obsX_eq (HandSHeadRun.getT_eq s)
theorem hrun (w : World) : HandSHeadRun.RunEq hR (PySem.W.view hR.prog [26]) hk hob 100000 hnames w := by
  intro os
  kernel_rfl
theorem facts {l : PySem.W.OpenLaw} {w : World} {K : PySem.W.Frag} {h : Heap} {mg : Str → Option Value} {fa : Addr} (X : K.In h) (G : h.Ns mainGlobals mg) (hfa : mg "law" = some (.ref fa)) (c : He.SaysX [] hdefs [] [] hex w h K) :
    ∃ fd : FuncData, (∀ (s : Shared) (v : Value), BindsTo s fd ⟨[v], []⟩ [("_law_script", v)]) ∧ ∀ base : Heap, K.In base → base.Ns mainGlobals mg → FnG l.prog w K mg base 7 fa fd ["_law_script"] (spD K [.q] .s F_law) := by
  have r0 : hex K = true := c.more
  have h0 := and1 r0
  have r1 := and2 r0
  have h1 := and1 r1
  have r2 := and2 r1
  have h2 := and1 r2
  have r3 := and2 r2
  exact all_mk X G hfa
    (of_decide_eq_true (all_at h0 0))
    (DL.fun_ofD c.t.d 0 (p := ("_law_deck", none)) (st := st__law_deck)).choose_spec
    (of_decide_eq_true (all_at h0 1))
    (DL.fun_ofD c.t.d 1 (p := ("_law_next", none)) (st := st__law_next)).choose_spec
    (of_decide_eq_true (all_at h0 2))
    (DL.fun_ofD c.t.d 2 (p := ("_law_roster", none)) (st := st__law_roster)).choose_spec
    (of_decide_eq_true (all_at h0 3))
    (DL.fun_ofD c.t.d 3 (p := ("_law_degrees", none)) (st := st__law_degrees)).choose_spec
    (of_decide_eq_true (all_at h0 4))
    (DL.fun_ofD c.t.d 4 (p := ("_law_degree", none)) (st := st__law_degree)).choose_spec
    (of_decide_eq_true (all_at h0 5))
    (DL.fun_ofD c.t.d 5 (p := ("_law_shuffled", none)) (st := st__law_shuffled)).choose_spec
    (of_decide_eq_true (all_at h0 6))
    (DL.fun_ofD c.t.d 6 (p := ("lessons_of", none)) (st := st_lessons_of)).choose_spec
    (of_decide_eq_true (all_at h0 7))
    (DL.fun_ofD c.t.d 7 (p := ("free_hours", none)) (st := st_free_hours)).choose_spec
    (of_decide_eq_true (all_at h0 8))
    (DL.fun_ofD c.t.d 8 (p := ("are_rivals", none)) (st := st_are_rivals)).choose_spec
    (of_decide_eq_true (all_at h0 9))
    (DL.fun_ofD c.t.d 9 (p := ("rivals", none)) (st := st_rivals)).choose_spec
    (of_decide_eq_true (all_at h0 10))
    (DL.fun_ofD c.t.d 10 (p := ("chain_of", none)) (st := st_chain_of)).choose_spec
    (of_decide_eq_true (all_at h0 11))
    (DL.fun_ofD c.t.d 11 (p := ("exchange", none)) (st := st_exchange)).choose_spec
    (of_decide_eq_true (all_at h0 12))
    (DL.fun_ofD c.t.d 12 (p := ("insert_lesson", none)) (st := st_insert_lesson)).choose_spec
    (of_decide_eq_true (all_at h0 13))
    (DL.fun_ofD c.t.d 13 (p := ("_law_whole", none)) (st := st__law_whole)).choose_spec
    (of_decide_eq_true (all_at h0 14))
    (DL.fun_ofD c.t.d 14 (p := ("_law_are_rivals", none)) (st := st__law_are_rivals)).choose_spec
    (of_decide_eq_true (all_at h0 15))
    (DL.fun_ofD c.t.d 15 (p := ("_law_is_schedule", none)) (st := st__law_is_schedule)).choose_spec
    (of_decide_eq_true (all_at h0 16))
    (DL.fun_ofD c.t.d 16 (p := ("_law_filled", none)) (st := st__law_filled)).choose_spec
    (of_decide_eq_true (all_at h0 17))
    (DL.fun_ofD c.t.d 17 (p := ("_law_stuck", none)) (st := st__law_stuck)).choose_spec
    (of_decide_eq_true (all_at h0 18))
    (DL.fun_ofD c.t.d 18 (p := ("law", none)) (st := st_law)).choose_spec
    (of_decide_eq_true (all_at h0 19))
    (of_decide_eq_true (all_at h0 20))
    (of_decide_eq_true (all_at h0 21))
    (all_at h0 22)
    (of_decide_eq_true (all_at h0 23))
    (of_decide_eq_true (all_at h0 24))
    (of_decide_eq_true (all_at h0 25))
    (all_at h0 26)
    (of_decide_eq_true (all_at h0 27))
    (of_decide_eq_true (all_at h0 28))
    (all_at h0 29)
    (all_at h1 0)
    (of_decide_eq_true (all_at h1 1))
    (of_decide_eq_true (all_at h1 2))
    (of_decide_eq_true (all_at h1 3))
    (of_decide_eq_true (all_at h1 4))
    (of_decide_eq_true (all_at h1 5))
    (all_at h1 6)
    (of_decide_eq_true (all_at h1 7))
    (of_decide_eq_true (all_at h1 8))
    (of_decide_eq_true (all_at h1 9))
    (DL.fun_ofD c.t.d 19 (p := ("TooManyLessons", some "__init__")) (st := ini_TooManyLessons)).choose_spec
    (all_at h1 10)
    (all_at h1 11)
    (of_decide_eq_true (all_at h1 12))
    (of_decide_eq_true (all_at h1 13))
    (of_decide_eq_true (all_at h1 14))
    (of_decide_eq_true (all_at h1 15))
    (of_decide_eq_true (all_at h1 16))
    (all_at h1 17)
    (of_decide_eq_true (all_at h1 18))
    (of_decide_eq_true (all_at h1 19))
    (of_decide_eq_true (all_at h1 20))
    (of_decide_eq_true (all_at h1 21))
    (DL.fun_ofD c.t.d 20 (p := ("NoFreeHour", some "__init__")) (st := ini_NoFreeHour)).choose_spec
    (of_decide_eq_true (all_at h1 22))
    (of_decide_eq_true (all_at h1 23))
    (of_decide_eq_true (all_at h1 24))
    (of_decide_eq_true (all_at h1 25))
    (of_decide_eq_true (all_at h1 26))
    (of_decide_eq_true (all_at h1 27))
    (of_decide_eq_true (all_at h1 28))
    (of_decide_eq_true (all_at h1 29))
    (of_decide_eq_true (all_at h2 0))
    (of_decide_eq_true (all_at h2 1))
    (of_decide_eq_true (all_at h2 2))
    (of_decide_eq_true (all_at h2 3))
    (of_decide_eq_true (all_at h2 4))
    (of_decide_eq_true (all_at h2 5))
    (DL.ns_int (all_at h2 6)).choose_spec
end LK
open PySem PySem.W PySem.Calls PyProof.Rows
set_option maxHeartbeats 0 in
theorem PySem.Challenge.cw_listedges_k59_whole_rosters_built_holds : PySem.Challenge.rw_listedges_k59_whole_rosters_built.Holds := by
  w_on; o_law
  refine HandSHeadRun.head_any (r := (PySem.W.OpenLaw.row PySem.Challenge.rw_listedges_k59_whole_rosters_built)) (q := view (OpenLaw.row PySem.Challenge.rw_listedges_k59_whole_rosters_built).prog [26]) (H := LK.hk) (ob := LK.hob) (M := 100000) (loose := LK.hnames) (d := HandSHeadRun.topDef (OpenLaw.row PySem.Challenge.rw_listedges_k59_whole_rosters_built).prog 26) (kwd := []) LK.hob_eq
    (by kernel_rfl) (fun s => by kernel_rfl) LK.hrun (by kernel_rfl) (by kernel_rfl) (by kernel_rfl) (by rfl) (by first | assumption | decide +kernel) (by decide +kernel) ⟨rfl, rfl, rfl, rfl, rfl, by decide +kernel⟩ ?hw ?hc
  case hw => w_witness2
  case hc =>
    refine DL.walk_ofX (l := PySem.Challenge.rw_listedges_k59_whole_rosters_built) (n := 63) (k := 7) (x := "_law_script") (Fn := LK.F_law) rfl (by decide) (by kernel_rfl) ⟨rfl, by decide, by decide⟩ ?F (fun ns h => LK.law_true ns h)
    intro w mg fa h Y G hmg0
    obtain ⟨K, KX, c⟩ := Y
    have hmg : mg ("law" : PySem.Str) = some (.ref fa) := by
      have e : (HandSHeadRun.topDef (OpenLaw.row PySem.Challenge.rw_listedges_k59_whole_rosters_built).prog 26).name = ("law" : PySem.Str) := by kernel_rfl
      rw [← e]
      exact hmg0
    obtain ⟨fd, hb, hF⟩ := LK.facts (l := PySem.Challenge.rw_listedges_k59_whole_rosters_built) (w := w) KX G hmg c
    exact ⟨K, fd, KX, hb, hF⟩
