import PyProof.Rows.All
import Wide.All
import OpenK.AllK
import Wide.FinOn
import HandS.ForMost
import HandS.IsInst
import HandS.TupAny
import HandS.TupMul
import HandS.Wide
import HandS.Conv
import HandS.List
import HandS.SortInts
import HandS.Walk
import HandS.Zip
import HandS.Rev
import KE.DataMinMax
import KE.DataAny
import KE.DataFind
import KE.DataIsa
import KE.DataCmp
import KE.DataEq
import KE.SortData
import KE.DatumIndex
import KE.KTupSum
import KE.GoesEnum
import HandS.Style
import HandS.RaiseMore
import HandS.Flow
import HandS.Dict
import HandS.SetFor
import HandS.DictComp
import HandS.Iter
import KE.GoesMore
import HandS.NoneIn
import HandS.ExcInit
import HandS.ExcInitHot
import HandS.ExcCtx
import HandS.ExcField
import HandS.ExcOwn
import HandS.WordsExc
import HandS.TryOnly
import HandS.TryMany
import KE.KExcIs
import HandS.ExcIs
import KE.KDictList
import KE.KDictDisplayH
import HandS.TupSets
import HandS.Set
import PyProof.SumAny
import PyProof.WalksMore
import PyProof.Rows.TupAdd
import PyProof.Rows.TupIter
import PyProof.AutoSeq1
import KE.KExcInit
import PyProof.ExcBaseAll.LookupError
import KE.KTryMore
import KE.KSmall
import HandS.DictEq
import HandS.SlotsOwn
import PyProof.CallStr
import HandS.FStr
import HandS.DictTup
import HandS.Defaults
import HandS.Text
import HandS.More
import HandS.HotCalls
import HandS.Head0
import HandS.Head1
import HandS.Head2
import HandS.HeadHook1
import HandS.HeadHook2
import HandS.HeadHook3
import HandS.HeadHook4
import HandS.Lambda
import HandS.EndTab
import HandS.NestedK
import HandS.ReplaceLit
import PySem.Challenge.RW_listedges_k80_lists_texts_that_are_wrong
set_option Elab.async false
set_option linter.all false
set_option maxRecDepth 100000
set_option maxHeartbeats 4000000
theorem oBs {α β : Type} {o : Option α} {f : α → Option β} {b : β} (h : o.bind f = some b) : ∃ a, o = some a ∧ f a = some b := Option.bind_eq_some_iff.mp h
namespace DL
open PySem L2 PySem.Spec
inductive Ty where
  | u | s | q | d | l (t : Ty) | r (ts : List Ty) | e (a : Addr) (dx : Option Addr) (fs : List (Str × V)) (c : Str) | k (v : V) (t : Ty) | a (v : V) | t | o (C : Addr) (ns : List Str) (ts : List Ty) | f (C : Addr) (ns : List Str) | x (a : Addr) (o : Obj) (kvs : List (Int × V)) | g (Φ : Hp → Hp → PyData → V → List Addr → Prop)
def NdT (K : PySem.W.Frag) (G : Hp) (a : Addr) (xs : List V) : Prop :=
  (∃ o : Obj, o.cls = .type "tuple" ∧ o.dict = none ∧ G a = some (.frz o (.tup xs))) ∨
    ∃ (o : Obj) (its : Array Value) (n : Nat), K.lookup a = some o ∧ o.cls = .type "tuple" ∧ o.dict = none ∧ o.data = .seq its n ∧ its.size ≤ sizeLine ∧ Vals xs its.toList
theorem NdT.sq {K : PySem.W.Frag} {G : Hp} {a : Addr} {xs : List V} (h : NdT K G a xs) : SqT K G a xs := by
  rcases h with ⟨o, _, _, h⟩ | ⟨o, its, n, h1, h2, _, h3, h4, h5⟩
  · exact .inl (.inr ⟨o, h⟩)
  · exact .inr ⟨o, its, n, h1, h2, h3, h4, h5⟩
def NewT (H : Hp) (xs : List V) (Q : VK) : Prop := ∀ (p : Addr) (o : Obj), o.cls = .type "tuple" → o.dict = none → H p = none → Q (.ref p) (upd H p (.frz o (.tup xs)))
def obT : Option Addr → PyData
  | none => .none
  | some a => .int (a : Nat)
def obD (o : Option Addr) (cn : Str) (ns : List Str) (ds : List PyData) : PyData := .dict [(.tuple [obT o, .int (2 ^ 2000)], .tuple [.str cn, .tuple (ns.map .str), .list ds])]
def isOb : PyData → Bool
  | .dict [(.tuple _, _)] => true
  | _ => false
theorem ob_big : decide (((2 : Int) ^ 2000).natAbs.log2 < 1920) = false := by decide +kernel
theorem ob_show (o : Option Addr) (cn : Str) (ns : List Str) (ds : List PyData) : (obD o cn ns ds).showable = false := by
  unfold obD
  simp only [PyData.showable, PyData.showableKv, PyData.showableAll, ob_big, Bool.false_and, Bool.and_false]
def isDct : PyData → Bool
  | .dict kvs => !isOb (.dict kvs)
  | _ => false
def obTys : List String := ["int", "str", "tuple", "list", "dict", "bool", "set"]
structure CnK (K : PySem.W.Frag) (cn : Str) (C : Addr) : Prop where
  ns : PySem.W.nsIn K mainGlobals cn = some (some (.ref C))
  cl : Cls K C
  ca : PySem.W.findIn K (.ref C) "__class__" = some (some (.builtin "object.__class__"))
  cg : PySem.W.specialIn K (.builtin "object.__class__") "__get__" = some (some (.builtin "getset_descriptor.__get__"))
  ct : PySem.W.takesIn K (.builtin "object.__class__") = some true
  cm : PySem.W.mroIn K C (.type "object") = some true
  ty : ∀ T ∈ obTys, PySem.W.kitOne K (.ref C) (.type T) = some false
def ftS : Nat → PyData → Bool
  | _, .none => true
  | _, .bool _ => true
  | _, .int _ => true
  | _, .str _ => true
  | n + 1, .tuple xs => xs.all (ftS n)
  | _, _ => false
inductive Dq (K : PySem.W.Frag) (G : Hp) : V → PyData → Prop
  | non : Dq K G .non .none
  | bl (b : Bool) : Dq K G (.bl b) (.bool b)
  | int (i : Int) : Dq K G (.int i) (.int i)
  | str (x : Str) : x.length ≤ sizeLine → Dq K G (.str x) (.str x)
  | lst {a : Addr} {xs : List V} {ds : List PyData} : Rd G a (.lst xs) → xs.length = ds.length → xs.length ≤ sizeLine → (∀ (i : Nat) (v : V) (d : PyData), xs[i]? = some v → ds[i]? = some d → Dq K G v d) → Dq K G (.ref a) (.list ds)
  | tup {a : Addr} {xs : List V} {ds : List PyData} : NdT K G a xs → xs.length = ds.length → xs.length ≤ sizeLine → (∀ (i : Nat) (v : V) (d : PyData), xs[i]? = some v → ds[i]? = some d → Dq K G v d) → Dq K G (.ref a) (.tuple ds)
  | dic {a : Addr} {kvs : List (Str × Int)} : Rd G a (.dK (kvs.map fun p => (Sum.inr p.1, V.int p.2))) → kvs.length ≤ 15 → (kvs = [] → G a = some (.dK [])) → Dq K G (.ref a) (.dict (kvs.map fun p => (.str p.1, .int p.2)))
  | dv {a : Addr} {k : Str} {v : V} {d : PyData} : Rd G a (.dK [(Sum.inr k, v)]) → ftS 3 d = true → Dq K G v d → Dq K G (.ref a) (.dict [(.str k, d)])
  | ob {a C dx : Addr} {fs : List (Str × V)} {ds : List PyData} (o : Option Addr) (cn : Str) : CnK K cn C → G a = some (.ins C dx fs) → (∀ b, o = some b → b = a) → (fs.map (·.2)).length = ds.length → (∀ (i : Nat) (v : V) (d : PyData), (fs.map (·.2))[i]? = some v → ds[i]? = some d → Dq K G v d) → Dq K G (.ref a) (obD o cn (fs.map (·.1)) ds)
def DqA (K : PySem.W.Frag) (G : Hp) (xs : List V) (ds : List PyData) : Prop := xs.length = ds.length ∧ ∀ (i : Nat) (v : V) (d : PyData), xs[i]? = some v → ds[i]? = some d → Dq K G v d
section
variable {K : PySem.W.Frag} {G G' H H' : Hp}
theorem same_rd {a : Addr} {u : HO} (e : Same G G') (h : Rd G a u) : Rd G' a u := by
  rcases h with h | ⟨o, h⟩
  · exact .inl (e _ _ h)
  · exact .inr ⟨o, e _ _ h⟩
theorem same_seqT {a : Addr} {xs : List V} (e : Same G G') (h : SqT K G a xs) : SqT K G' a xs := by
  rcases h with (h | ⟨o, h⟩) | h
  · exact .inl (.inl (e _ _ h))
  · exact .inl (.inr ⟨o, e _ _ h⟩)
  · exact .inr h
theorem same_ndT {a : Addr} {xs : List V} (e : Same G G') (h : NdT K G a xs) : NdT K G' a xs := by
  rcases h with ⟨o, h1, h2, h⟩ | h
  · exact .inl ⟨o, h1, h2, e _ _ h⟩
  · exact .inr h
theorem same_seqL {a : Addr} {xs : List V} (e : Same G G') (h : SqL K G a xs) : SqL K G' a xs := h.imp (same_rd e) id
theorem Dq.mono (e : Same G G') {v : V} {d : PyData} (h : Dq K G v d) : Dq K G' v d := by
  induction h with
  | non => exact .non
  | bl b => exact .bl b
  | int i => exact .int i
  | str x hx => exact .str x hx
  | lst hs hl hz _ ih => exact .lst (same_rd e hs) hl hz ih
  | tup hs hl hz _ ih => exact .tup (same_ndT e hs) hl hz ih
  | dic hs hz h0 => exact .dic (same_rd e hs) hz fun q => e _ _ (h0 q)
  | ob o cn h1 h2 h3 hl _ ih => exact .ob o cn h1 (e _ _ h2) h3 hl ih
  | dv h1 h2 _ ih => exact .dv (same_rd e h1) h2 ih
theorem DqA.mono (e : Same G G') {xs : List V} {ds : List PyData} (h : DqA K G xs ds) : DqA K G' xs ds := ⟨h.1, fun i v d a b => (h.2 i v d a b).mono e⟩
theorem DqA.nil : DqA K G [] [] := ⟨rfl, fun i v d h _ => by simp at h⟩
theorem DqA.cons {v : V} {d : PyData} {vs : List V} {ds : List PyData} (h : Dq K G v d) (t : DqA K G vs ds) : DqA K G (v :: vs) (d :: ds) := by
  refine ⟨by simp [t.1], fun i x y hx hy => ?_⟩
  cases i with
  | zero => simp at hx hy; subst hx; subst hy; exact h
  | succ i => simp at hx hy; exact t.2 i x y hx hy
theorem DqA.head {v : V} {d : PyData} {vs : List V} {ds : List PyData} (h : DqA K G (v :: vs) (d :: ds)) : Dq K G v d := h.2 0 v d rfl rfl
theorem DqA.tail {v : V} {d : PyData} {vs : List V} {ds : List PyData} (h : DqA K G (v :: vs) (d :: ds)) : DqA K G vs ds :=
  ⟨by have := h.1; simpa using this, fun i x y hx hy => h.2 (i + 1) x y (by simpa using hx) (by simpa using hy)⟩
theorem DqA.append {vs ws : List V} {ds es : List PyData} (h : DqA K G vs ds) (t : DqA K G ws es) : DqA K G (vs ++ ws) (ds ++ es) := by
  refine ⟨by simp [h.1, t.1], fun i x y hx hy => ?_⟩
  by_cases hi : i < vs.length
  · rw [List.getElem?_append_left hi] at hx
    rw [List.getElem?_append_left (by rw [← h.1]; exact hi)] at hy
    exact h.2 i x y hx hy
  · rw [List.getElem?_append_right (by omega)] at hx
    rw [List.getElem?_append_right (by rw [← h.1]; omega), ← h.1] at hy
    exact t.2 _ x y hx hy
theorem DqA.get {vs : List V} {ds : List PyData} (h : DqA K G vs ds) {i : Nat} {d : PyData} (e : ds[i]? = some d) : ∃ v, vs[i]? = some v ∧ Dq K G v d := by
  have hi : i < vs.length := by rw [h.1]; exact (List.getElem?_eq_some_iff.mp e).1
  exact ⟨vs[i], List.getElem?_eq_getElem hi, h.2 i _ _ (List.getElem?_eq_getElem hi) e⟩
end
def hTI (ks : List Int) : Int := reduceHash (Builtin.Tuple.tupleHashOf (ks.map hashInt))
def DTt (a : Addr) (kvs : List (List Int × Addr × V)) (h : Heap) : Prop :=
  (a == sysModules) = false ∧ (kvs.map (·.1)).Nodup ∧ ∃ xs : List (List Int × Addr × Value), xs.length = kvs.length ∧
    (∀ (i : Nat) (p : List Int × Addr × V) (q : List Int × Addr × Value), kvs[i]? = some p → xs[i]? = some q → p.1 = q.1 ∧ p.2.1 = q.2.1 ∧ RelV p.2.2 q.2.2) ∧
    ∃ (o : Obj) (es : Array DictEntry) (ep : Nat), h.get? a = some o ∧ o.ExactDict ∧ o.data = .dict es ep ∧ es.toList = xs.map fun x => (⟨hTI x.1, .ref x.2.1, x.2.2⟩ : DictEntry)
structure GOk (Φ : Hp → Hp → PyData → V → List Addr → Prop) : Prop where
  at_ : ∀ {G H : Hp} {d : PyData} {v : V} {A : List Addr}, Φ G H d v A → ∀ a ∈ A, G a = none ∧ ∃ o, H a = some o
  kd : ∀ {G H : Hp} {d : PyData} {v : V} {A : List Addr}, Φ G H d v A → ∀ a ∈ A, (∃ vs, H a = some (.lst vs)) ∨ (∃ kvs, H a = some (.dK kvs)) ∨ (∃ φ, H a = some (.ext φ)) ∨ (∃ C dx fs, H a = some (.ins C dx fs)) ∨ (∃ x, H a = some (.own x)) ∨ ∃ ps, H a = some (.tbl ps)
  fr : ∀ {G G' H H' : Hp} {d : PyData} {v : V} {A : List Addr}, Φ G H d v A → Same G G' → (∀ a ∈ A, G' a = none) → (∀ a ∈ A, H' a = H a) → Φ G' H' d v A
mutual
inductive Own (K : PySem.W.Frag) (G H : Hp) : Ty → PyData → Option V → List Addr → Prop
  | u (d : PyData) (v : Option V) : Own K G H .u d v []
  | s {d : PyData} {v : V} : Dq K G v d → Own K G H .s d (some v) []
  | q {a : Addr} {ns : List Int} : SqL K G a (ns.map V.int) → ns.length ≤ sizeLine → Own K G H .q (.list (ns.map PyData.int)) (some (.ref a)) []
  | d {a : Addr} {kvs : List (Int × V)} {ds : List (Int × PyData)} : G a = none → H a = some (.dK (kvs.map fun p => ((Sum.inl p.1 : Key), p.2))) → kvs.map (·.1) = ds.map (·.1) → DqA K G (kvs.map (·.2)) (ds.map (·.2)) → kvs.length ≤ sizeLine → Own K G H .d (.dict (ds.map fun p => (.int p.1, p.2))) (some (.ref a)) [a]
  | l {t : Ty} {a : Addr} {vs : List V} {ds : List PyData} {A : List Addr} : G a = none → H a = some (.lst vs) → vs.length ≤ sizeLine → OwnA K G H (List.replicate ds.length t) ds (vs.map some) A → Own K G H (.l t) (.list ds) (some (.ref a)) (a :: A)
  | r {ts : List Ty} {a : Addr} {vs : List V} {ds : List PyData} {A : List Addr} : G a = none → H a = some (.lst vs) → vs.length ≤ sizeLine → OwnA K G H ts ds (vs.map some) A → Own K G H (.r ts) (.list ds) (some (.ref a)) (a :: A)
  | e {a : Addr} {dx : Option Addr} {fs : List (Str × V)} {c : Str} {ds : List PyData} : (∀ x, dx = some x → G x = some (.xd fs)) → DqA K G (fs.map (·.2)) ds → Own K G H (.e a dx fs c) (.tuple (.str c :: ds)) (some (.ref a)) []
  | k {t : Ty} {d : PyData} {v : V} {A : List Addr} : Own K G H t d (some v) A → Own K G H (.k v t) d (some v) A
  | a (d : PyData) (v : V) : Own K G H (.a v) d (some v) []
  | t {a : Addr} {kvs : List (List Int × Addr × V)} {ds : List (List Int × PyData)} : G a = none → H a = some (.ext (DTt a kvs)) → kvs.map (·.1) = ds.map (·.1) → (∀ p ∈ kvs, Dq K G (.ref p.2.1) (.tuple (p.1.map .int))) → DqA K G (kvs.map (·.2.2)) (ds.map (·.2)) → kvs.length ≤ sizeLine → Own K G H .t (.dict (ds.map fun p => (.tuple (p.1.map .int), p.2))) (some (.ref a)) [a]
  | o {C dx a : Addr} {ns : List Str} {ts : List Ty} {fs : List (Str × V)} {ds : List PyData} {A : List Addr} : G a = none → G dx = none → H a = some (.ins C dx fs) → H dx = some (.own a) → fs.map (·.1) = ns → OwnA K G H ts ds (fs.map fun p => some p.2) A → Own K G H (.o C ns ts) (.list ds) (some (.ref a)) (a :: dx :: A)
  | f {C dx a : Addr} {ns : List Str} {fs : List (Str × V)} {ds : List PyData} : G a = some (.ins C dx fs) → fs.map (·.1) = ns → DqA K G (fs.map (·.2)) ds → Own K G H (.f C ns) (.list ds) (some (.ref a)) []
  | x {a : Addr} {o : Obj} {kvs : List (Int × V)} {ds : List (Int × PyData)} : G a = some (.frz o (.dK (kvs.map fun p => ((Sum.inl p.1 : Key), p.2)))) → kvs.map (·.1) = ds.map (·.1) → DqA K G (kvs.map (·.2)) (ds.map (·.2)) → kvs.length ≤ sizeLine → Own K G H (.x a o kvs) (.dict (ds.map fun p => (.int p.1, p.2))) (some (.ref a)) []
  | g {Φ : Hp → Hp → PyData → V → List Addr → Prop} {d : PyData} {v : V} {A : List Addr} : GOk Φ → Φ G H d v A → Own K G H (.g Φ) d (some v) A
inductive OwnA (K : PySem.W.Frag) (G H : Hp) : List Ty → List PyData → List (Option V) → List Addr → Prop
  | nil : OwnA K G H [] [] [] []
  | cons {t : Ty} {ts : List Ty} {d : PyData} {ds : List PyData} {v : Option V} {vs : List (Option V)} {A B : List Addr} : Own K G H t d v A → OwnA K G H ts ds vs B → OwnA K G H (t :: ts) (d :: ds) (v :: vs) (A ++ B)
end
section
variable {K : PySem.W.Frag} {G G' H H' : Hp}
theorem own_at {t : Ty} {d : PyData} {v : Option V} {A : List Addr} (h : Own K G H t d v A) : ∀ a ∈ A, G a = none ∧ ∃ o, H a = some o := by
  refine Own.rec (K := K) (G := G) (H := H) (motive_1 := fun t d v A _ => ∀ a ∈ A, G a = none ∧ ∃ o, H a = some o) (motive_2 := fun ts ds vs A _ => ∀ a ∈ A, G a = none ∧ ∃ o, H a = some o) ?_ ?_ ?_ ?_ ?_ ?_ ?_ ?_ ?_ ?_ ?_ ?_ ?_ ?_ ?_ ?_ h
  · intro d v a ha; cases ha
  · intro d v _ a ha; cases ha
  · intro a ns _ _ b hb; cases hb
  · intro a kvs ds h1 h2 _ _ _ b hb
    rw [List.mem_singleton.mp hb]
    exact ⟨h1, _, h2⟩
  · intro t a vs ds A h1 h2 _ _ ih b hb
    rcases List.mem_cons.mp hb with rfl | hb
    · exact ⟨h1, _, h2⟩
    · exact ih b hb
  · intro t a vs ds A h1 h2 _ _ ih b hb
    rcases List.mem_cons.mp hb with rfl | hb
    · exact ⟨h1, _, h2⟩
    · exact ih b hb
  · intro a dx fs c ds _ _ b hb; cases hb
  · intro t d v A _ ih; exact ih
  · intro d v b hb; cases hb
  · intro a kvs ds h1 h2 _ _ _ _ b hb
    rw [List.mem_singleton.mp hb]
    exact ⟨h1, _, h2⟩
  · intro C dx a ns ts fs ds A h1 h2 h3 h4 _ _ ih b hb
    rcases List.mem_cons.mp hb with rfl | hb
    · exact ⟨h1, _, h3⟩
    · rcases List.mem_cons.mp hb with rfl | hb
      · exact ⟨h2, _, h4⟩
      · exact ih b hb
  · intro C dx a ns fs ds _ _ _ b hb; cases hb
  · intro a o kvs ds _ _ _ _ b hb; cases hb
  · intro Φ d v A ok h; exact ok.at_ h
  · intro a ha; cases ha
  · intro t ts d ds v vs A B _ _ i1 i2 a ha
    rcases List.mem_append.mp ha with ha | ha
    · exact i1 a ha
    · exact i2 a ha
theorem ownA_at {t : List Ty} {d : List PyData} {v : List (Option V)} {A : List Addr} (h : OwnA K G H t d v A) : ∀ a ∈ A, G a = none ∧ ∃ o, H a = some o := by
  induction t generalizing d v A with
  | nil => cases h; intro a ha; cases ha
  | cons t ts ih =>
    cases h with
    | cons h1 h2 =>
      intro a ha
      rcases List.mem_append.mp ha with ha | ha
      · exact own_at h1 a ha
      · exact ih h2 a ha
theorem own_fr {t : Ty} {d : PyData} {v : Option V} {A : List Addr} (h : Own K G H t d v A) (e : Same G G') (hg : ∀ a ∈ A, G' a = none) (hh : ∀ a ∈ A, H' a = H a) : Own K G' H' t d v A := by
  refine Own.rec (K := K) (G := G) (H := H) (motive_1 := fun t d v A _ => (∀ a ∈ A, G' a = none) → (∀ a ∈ A, H' a = H a) → Own K G' H' t d v A) (motive_2 := fun t d v A _ => (∀ a ∈ A, G' a = none) → (∀ a ∈ A, H' a = H a) → OwnA K G' H' t d v A) ?_ ?_ ?_ ?_ ?_ ?_ ?_ ?_ ?_ ?_ ?_ ?_ ?_ ?_ ?_ ?_ h hg hh
  · intro d v _ _; exact .u d v
  · intro d v h _ _; exact .s (h.mono e)
  · intro a ns h hz _ _; exact .q (same_seqL e h) hz
  · intro a kvs ds h1 h2 hk q hz hg hh
    exact .d (hg a (List.mem_singleton.mpr rfl)) (by rw [hh a (List.mem_singleton.mpr rfl)]; exact h2) hk (q.mono e) hz
  · intro t a vs ds A h1 h2 hz _ ih hg hh
    exact .l (hg a (List.mem_cons_self ..)) (by rw [hh a (List.mem_cons_self ..)]; exact h2) hz (ih (fun b hb => hg b (List.mem_cons_of_mem _ hb)) fun b hb => hh b (List.mem_cons_of_mem _ hb))
  · intro t a vs ds A h1 h2 hz _ ih hg hh
    exact .r (hg a (List.mem_cons_self ..)) (by rw [hh a (List.mem_cons_self ..)]; exact h2) hz (ih (fun b hb => hg b (List.mem_cons_of_mem _ hb)) fun b hb => hh b (List.mem_cons_of_mem _ hb))
  · intro a dx fs c ds h1 h2 _ _
    exact .e (fun x hx => e _ _ (h1 x hx)) (h2.mono e)
  · intro t d v A _ ih hg hh; exact .k (ih hg hh)
  · intro d v _ _; exact .a d v
  · intro a kvs ds h1 h2 hk hq q hz hg hh
    exact .t (hg a (List.mem_singleton.mpr rfl)) (by rw [hh a (List.mem_singleton.mpr rfl)]; exact h2) hk (fun p hp => (hq p hp).mono e) (q.mono e) hz
  · intro C dx a ns ts fs ds A h1 h2 h3 h4 hn _ ih hg hh
    have m1 : a ∈ a :: dx :: A := List.mem_cons_self ..
    have m2 : dx ∈ a :: dx :: A := List.mem_cons_of_mem _ (List.mem_cons_self ..)
    have m3 : ∀ b ∈ A, b ∈ a :: dx :: A := fun b hb => List.mem_cons_of_mem _ (List.mem_cons_of_mem _ hb)
    exact .o (hg a m1) (hg dx m2) (by rw [hh a m1]; exact h3) (by rw [hh dx m2]; exact h4) hn (ih (fun b hb => hg b (m3 b hb)) fun b hb => hh b (m3 b hb))
  · intro C dx a ns fs ds h1 hn q _ _
    exact .f (e _ _ h1) hn (q.mono e)
  · intro a o kvs ds h1 hk q hz _ _
    exact .x (e _ _ h1) hk (q.mono e) hz
  · intro Φ d v A ok h hg hh; exact .g ok (ok.fr h e hg hh)
  · intro _ _; exact .nil
  · intro t ts d ds v vs A B _ _ i1 i2 hg hh
    exact .cons (i1 (fun b hb => hg b (List.mem_append_left _ hb)) fun b hb => hh b (List.mem_append_left _ hb)) (i2 (fun b hb => hg b (List.mem_append_right _ hb)) fun b hb => hh b (List.mem_append_right _ hb))
theorem ownA_fr {t : List Ty} {d : List PyData} {v : List (Option V)} {A : List Addr} (h : OwnA K G H t d v A) (e : Same G G') (hg : ∀ a ∈ A, G' a = none) (hh : ∀ a ∈ A, H' a = H a) : OwnA K G' H' t d v A := by
  induction t generalizing d v A with
  | nil => cases h; exact .nil
  | cons t ts ih =>
    cases h with
    | cons h1 h2 =>
      exact .cons (own_fr h1 e (fun b hb => hg b (List.mem_append_left _ hb)) fun b hb => hh b (List.mem_append_left _ hb)) (ih h2 (fun b hb => hg b (List.mem_append_right _ hb)) fun b hb => hh b (List.mem_append_right _ hb))
theorem ownA_len {t : List Ty} {d : List PyData} {v : List (Option V)} {A : List Addr} (h : OwnA K G H t d v A) : t.length = d.length ∧ v.length = d.length := by
  induction t generalizing d v A with
  | nil => cases h; exact ⟨rfl, rfl⟩
  | cons t ts ih =>
    cases h with
    | cons h1 h2 =>
      obtain ⟨a, b⟩ := ih h2
      simp only [List.length_cons]
      omega
def lay (G H : Hp) (A : List Addr) : Hp := fun a => if a ∈ A then H a else G a
theorem lay_in {A : List Addr} {a : Addr} (h : a ∈ A) : lay G H A a = H a := by unfold lay; rw [if_pos h]
theorem lay_out {A : List Addr} {a : Addr} (h : a ∉ A) : lay G H A a = G a := by unfold lay; rw [if_neg h]
end
mutual
def nou : Ty → Bool
  | .u => false
  | .s => true
  | .q => false
  | .d => false
  | .l t => nou t
  | .r ts => nouL ts
  | .e _ _ _ _ => false
  | .k _ t => nou t
  | .a _ => false
  | .t => false
  | .o _ _ _ => false
  | .f _ _ => false
  | .x _ _ _ => false
  | .g _ => false
def nouL : List Ty → Bool
  | [] => true
  | t :: ts => nou t && nouL ts
end
theorem nouL_rep {t : Ty} (h : nou t = true) : ∀ n : Nat, nouL (List.replicate n t) = true
  | 0 => rfl
  | n + 1 => by
    show (nou t && nouL (List.replicate n t)) = true
    rw [h, nouL_rep h n]; rfl
section
variable {K : PySem.W.Frag} {G G' H H' : Hp}
theorem own_frz {t : Ty} {d : PyData} {v : Option V} {A : List Addr} (h : Own K G H t d v A) (e : Same G G') (hg : ∀ a ∈ A, G' a = H a) (hn : nou t = true) : ∃ x, v = some x ∧ Dq K G' x d := by
  refine Own.rec (K := K) (G := G) (H := H) (motive_1 := fun t d v A _ => (∀ a ∈ A, G' a = H a) → nou t = true → ∃ x, v = some x ∧ Dq K G' x d)
    (motive_2 := fun t d v A _ => (∀ a ∈ A, G' a = H a) → nouL t = true → ∀ vs : List V, v = vs.map some → DqA K G' vs d) ?_ ?_ ?_ ?_ ?_ ?_ ?_ ?_ ?_ ?_ ?_ ?_ ?_ ?_ ?_ ?_ h hg hn
  · intro d v _ h; exact absurd h (by simp [nou])
  · intro d v h _ _; exact ⟨_, rfl, h.mono e⟩
  · intro a ns _ _ _ h; exact absurd h (by simp [nou])
  · intro a kvs ds _ _ _ _ _ _ h; exact absurd h (by simp [nou])
  · intro t a vs ds A h1 h2 hz _ ih hg hn
    have q := ih (fun b hb => hg b (List.mem_cons_of_mem _ hb)) (nouL_rep (by simpa [nou] using hn) _) vs rfl
    have ea : G' a = some (.lst vs) := by rw [hg a (List.mem_cons_self ..)]; exact h2
    exact ⟨_, rfl, .lst (.inl ea) q.1 hz q.2⟩
  · intro t a vs ds A h1 h2 hz _ ih hg hn
    have q := ih (fun b hb => hg b (List.mem_cons_of_mem _ hb)) (by simpa [nou] using hn) vs rfl
    have ea : G' a = some (.lst vs) := by rw [hg a (List.mem_cons_self ..)]; exact h2
    exact ⟨_, rfl, .lst (.inl ea) q.1 hz q.2⟩
  · intro a dx fs c ds _ _ _ h; exact absurd h (by simp [nou])
  · intro t d v A _ ih hg hn; exact ih hg (by simpa [nou] using hn)
  · intro d v _ h; exact absurd h (by simp [nou])
  · intro a kvs ds _ _ _ _ _ _ _ h; exact absurd h (by simp [nou])
  · intro C dx a ns ts fs ds A _ _ _ _ _ _ _ _ h; exact absurd h (by simp [nou])
  · intro C dx a ns fs ds _ _ _ _ h; exact absurd h (by simp [nou])
  · intro a o kvs ds _ _ _ _ _ h; exact absurd h (by simp [nou])
  · intro Φ d v A _ _ _ h; exact absurd h (by simp [nou])
  · intro _ _ vs hv
    cases vs with
    | nil => exact DqA.nil
    | cons _ _ => cases hv
  · intro t ts d ds v vs A B _ _ i1 i2 hg hn ws hw
    cases ws with
    | nil => cases hw
    | cons x ws =>
      simp only [List.map_cons, List.cons.injEq] at hw
      obtain ⟨hx, hw⟩ := hw
      simp only [nouL, Bool.and_eq_true] at hn
      obtain ⟨y, hy, q⟩ := i1 (fun b hb => hg b (List.mem_append_left _ hb)) hn.1
      rw [hx] at hy
      cases hy
      exact DqA.cons q (i2 (fun b hb => hg b (List.mem_append_right _ hb)) hn.2 ws hw)
structure Stt (K : PySem.W.Frag) (m : List Ty) (G H : Hp) (σ : St) (e : List PyData) (A : List Addr) : Prop where
  own : OwnA K G H m e σ A
  nd : A.Nodup
  sub : Same G H
structure Step (A : List Addr) (G H : Hp) (B : List Addr) (G' H' : Hp) : Prop where
  sg : Same G G'
  fr : ∀ a o, H a = some o → a ∉ A → H' a = some o
  own : ∀ a ∈ B, a ∈ A ∨ H a = none
  gnew : ∀ a, G a = none → (∃ o, G' a = some o) → a ∈ A ∨ H a = none
theorem Step.refl {A : List Addr} : Step A G H A G H := ⟨Same.refl G, fun _ _ h _ => h, fun _ h => .inl h, fun a h ⟨o, e⟩ => by rw [h] at e; cases e⟩
theorem none_or (H : Hp) (a : Addr) : H a = none ∨ ∃ o, H a = some o := by
  cases h : H a with
  | none => exact .inl rfl
  | some o => exact .inr ⟨o, rfl⟩
theorem Step.back {A B : List Addr} (s : Step A G H B G' H') {a : Addr} (h : H' a = none) : a ∈ A ∨ H a = none := by
  by_cases ha : a ∈ A
  · exact .inl ha
  · rcases none_or H a with e | ⟨o, e⟩
    · exact .inr e
    · rw [s.fr a o e ha] at h; cases h
theorem Step.seq {A Av A1 B : List Addr} {G1 H1 G2 H2 : Hp} (s1 : Step A G H (Av ++ A1) G1 H1) (o1 : ∀ a ∈ Av, G1 a = none ∧ ∃ o, H1 a = some o) (nd : (Av ++ A1).Nodup) (s2 : Step A1 G1 H1 B G2 H2) (ndB : B.Nodup) :
    Step A G H (Av ++ B) G2 H2 ∧ (Av ++ B).Nodup ∧ (∀ a ∈ Av, G2 a = none) ∧ ∀ a ∈ Av, H2 a = H1 a := by
  have dis : ∀ a ∈ Av, a ∉ A1 := fun a ha hb => (List.nodup_append.mp nd).2.2 a ha a hb rfl
  have key : ∀ a, a ∈ A1 ∨ H1 a = none → a ∈ A ∨ H a = none := fun a h => by
    rcases h with h | h
    · exact s1.own a (List.mem_append_right _ h)
    · exact s1.back h
  refine ⟨⟨s1.sg.trans s2.sg, fun a o e ha => ?_, fun a ha => ?_, fun a e e2 => ?_⟩, ?_, fun a ha => ?_, fun a ha => ?_⟩
  · refine s2.fr a o (s1.fr a o e ha) fun hb => ?_
    rcases s1.own a (List.mem_append_right _ hb) with q | q
    · exact ha q
    · rw [e] at q; cases q
  · rcases List.mem_append.mp ha with ha | ha
    · exact s1.own a (List.mem_append_left _ ha)
    · exact key a (s2.own a ha)
  · rcases none_or G1 a with e1 | e1
    · exact key a (s2.gnew a e1 e2)
    · exact s1.gnew a e e1
  · refine List.nodup_append.mpr ⟨(List.nodup_append.mp nd).1, ndB, fun a ha b hb hab => ?_⟩
    subst hab
    rcases s2.own a hb with q | q
    · exact dis a ha q
    · obtain ⟨o, e⟩ := (o1 a ha).2
      rw [e] at q; cases q
  · rcases none_or G2 a with e | e
    · exact e
    · rcases s2.gnew a (o1 a ha).1 e with q | q
      · exact absurd q (dis a ha)
      · obtain ⟨o, e⟩ := (o1 a ha).2
        rw [e] at q; cases q
  · obtain ⟨o, e⟩ := (o1 a ha).2
    rw [e, s2.fr a o e (dis a ha)]
theorem Step.seq0 {A A1 B : List Addr} {G1 H1 G2 H2 : Hp} (s1 : Step A G H A1 G1 H1) (s2 : Step A1 G1 H1 B G2 H2) : Step A G H B G2 H2 := by
  have key : ∀ a, a ∈ A1 ∨ H1 a = none → a ∈ A ∨ H a = none := fun a h => by
    rcases h with h | h
    · exact s1.own a h
    · exact s1.back h
  refine ⟨s1.sg.trans s2.sg, fun a o e ha => ?_, fun a ha => key a (s2.own a ha), fun a e e2 => ?_⟩
  · refine s2.fr a o (s1.fr a o e ha) fun hb => ?_
    rcases s1.own a hb with q | q
    · exact ha q
    · rw [e] at q; cases q
  · rcases none_or G1 a with e1 | e1
    · exact key a (s2.gnew a e1 e2)
    · exact s1.gnew a e e1
theorem Step.less {A B B' : List Addr} (s : Step A G H B G' H') (h : ∀ a ∈ B', a ∈ B) : Step A G H B' G' H' := ⟨s.sg, s.fr, fun a ha => s.own a (h a ha), s.gnew⟩
theorem new_s {A : List Addr} {m : List Ty} {σ : St} {e : List PyData} {p : Addr} {o : HO} (st : Stt K m G H σ e A) (hp : H p = none) :
    Step A G H A (upd G p o) (upd H p o) ∧ Stt K m (upd G p o) (upd H p o) σ e A ∧ Same G (upd G p o) := by
  have gp : G p = none := st.sub.free hp
  have sg : Same G (upd G p o) := fun b x hx => by rw [upd_ne (ne_of_none hx gp)]; exact hx
  have nA : ∀ a ∈ A, a ≠ p := fun a ha q => by
    obtain ⟨_, o, e⟩ := ownA_at st.own a ha
    rw [q, hp] at e; cases e
  refine ⟨⟨sg, fun a x hx _ => by rw [upd_ne (ne_of_none hx hp)]; exact hx, fun a ha => .inl ha, fun a e1 ⟨x, e2⟩ => ?_⟩, ⟨ownA_fr st.own sg (fun a ha => ?_) (fun a ha => upd_ne (nA a ha)), st.nd, fun b x hx => ?_⟩, sg⟩
  · by_cases q : a = p
    · subst q; exact .inr hp
    · rw [upd_ne q, e1] at e2; cases e2
  · rw [upd_ne (nA a ha)]; exact (ownA_at st.own a ha).1
  · by_cases q : b = p
    · subst q; rw [upd_same] at hx ⊢; exact hx
    · rw [upd_ne q] at hx ⊢; exact st.sub b x hx
theorem new_o {A B : List Addr} {m : List Ty} {σ : St} {e : List PyData} {p : Addr} {o : HO} (st : Stt K m G H σ e A) (hp : H p = none) :
    Step A G H (p :: A) G (upd H p o) ∧ Stt K m G (upd H p o) σ e A ∧ (p :: A).Nodup ∧ G p = none := by
  have gp : G p = none := st.sub.free hp
  have nA : ∀ a ∈ A, a ≠ p := fun a ha q => by
    obtain ⟨_, o, e⟩ := ownA_at st.own a ha
    rw [q, hp] at e; cases e
  refine ⟨⟨Same.refl G, fun a x hx _ => by rw [upd_ne (ne_of_none hx hp)]; exact hx, fun a ha => ?_, fun a e1 ⟨x, e2⟩ => by rw [e1] at e2; cases e2⟩,
    ⟨ownA_fr st.own (Same.refl G) (fun a ha => (ownA_at st.own a ha).1) (fun a ha => upd_ne (nA a ha)), st.nd, fun b x hx => ?_⟩, ?_, gp⟩
  · rcases List.mem_cons.mp ha with rfl | ha
    · exact .inr hp
    · exact .inl ha
  · rw [upd_ne (ne_of_none hx gp)]; exact st.sub b x hx
  · exact List.nodup_cons.mpr ⟨fun h => nA p h rfl, st.nd⟩
theorem frz {A Av : List Addr} {m : List Ty} {σ : St} {e : List PyData} (st : Stt K m G H σ e A) (hv : ∀ a ∈ Av, G a = none ∧ ∃ o, H a = some o) (nd : (Av ++ A).Nodup) :
    Step (Av ++ A) G H A (lay G H Av) H ∧ Stt K m (lay G H Av) H σ e A ∧ Same G (lay G H Av) ∧ ∀ a ∈ Av, lay G H Av a = H a := by
  have dis : ∀ a ∈ A, a ∉ Av := fun a ha hb => (List.nodup_append.mp nd).2.2 a hb a ha rfl
  have sg : Same G (lay G H Av) := fun b x hx => by
    by_cases q : b ∈ Av
    · rw [(hv b q).1] at hx; cases hx
    · rw [lay_out q]; exact hx
  refine ⟨⟨sg, fun a o h _ => h, fun a ha => .inl (List.mem_append_right _ ha), fun a e1 ⟨o, e2⟩ => ?_⟩, ⟨ownA_fr st.own sg (fun a ha => ?_) (fun _ _ => rfl), st.nd, fun b x hx => ?_⟩, sg, fun a ha => lay_in ha⟩
  · by_cases q : a ∈ Av
    · exact .inl (List.mem_append_left _ q)
    · rw [lay_out q, e1] at e2; cases e2
  · rw [lay_out (dis a ha)]; exact (ownA_at st.own a ha).1
  · by_cases q : b ∈ Av
    · rw [lay_in q] at hx; exact hx
    · rw [lay_out q] at hx; exact st.sub b x hx
end
end DL
namespace DL
open PySem L2 PySem.Spec PyProof.Rows
section
variable {X : Cx} {pins : List (Addr × Obj)} {σ : L2.St} {H : Hp} {s : Shared} {Q : VK} {xs : List V} {its : List Value} {tk : Nat}
theorem newT_ep (I : Inv X pins σ H s) (r : Vals xs its) (hz : xs.length ≤ sizeLine) (q : NewT H xs Q) : EP X pins σ Q (.ref s.heap.objs.size) { s with heap := s.heap.push { cls := .type "tuple", data := .seq its.toArray }, toks := s.toks } := by
  have hg : (s.heap.push { cls := .type "tuple", data := .seq its.toArray }).get? s.heap.objs.size = some { cls := .type "tuple", data := .seq its.toArray } := Heap.get?_push_size _ rfl
  exact ⟨.ref s.heap.objs.size, _, I.laid (t' := s.toks) (o := .frz { cls := .type "tuple", data := .seq its.toArray } (.tup xs)) (fun b ob e => Heap.get?_push_of_some _ e) (Nat.le_refl _) ⟨hg, hz, its, r, _, hg, rfl, _, rfl⟩, rfl, q _ { cls := .type "tuple", data := .seq its.toArray } rfl rfl (I.hok.fresh (Nat.le_refl _))⟩
def tTupN (t : TA) : TE := fun σ H Q => t σ H fun xs H1 => xs.length ≤ sizeLine ∧ NewT H1 xs Q
theorem pe_tupN {es : List Expr} {t : TA} {pos : Pos} {x1} (h : PA X es t) : PE X (.Tuple es x1 pos) (tTupN t) := by
  refine ⟨fun pins s σ H Q I hq => ?_⟩
  refine wpAny_Tuple_spliced (thn (h.run pos pins s σ H _ I hq) fun vs s2 ⟨ys, H2, I2, rr, zz, qq⟩ => ⟨by rw [← rr.length]; exact zz, ?_⟩)
  exact newT_ep I2 rr zz qq
def rCatN (K : PySem.W.Frag) : R2 := fun x y H Q => ∃ a b xs ys, x = .ref a ∧ y = .ref b ∧ SqT K H a xs ∧ SqT K H b ys ∧ xs.length + ys.length ≤ sizeLine ∧
  (xs = [] → Q (.ref b) H) ∧ (xs ≠ [] → ys = [] → Q (.ref a) H) ∧ (xs ≠ [] → ys ≠ [] → NewT H (xs ++ ys) Q)
theorem op_catN : OpR X (binaryOp .Add) (rCatN X.K) := by
  intro pins s σ H x y v u Q I rx ry h
  obtain ⟨a, b, xs, ys, rfl, rfl, ha, hb, hz, q0, q1, q2⟩ := h
  by_cases hx : xs = []
  · refine op_catA pins s σ H _ _ v u Q I rx ry ⟨a, b, xs, ys, rfl, rfl, ha, hb, hz, q0, fun z => absurd hx z, fun z => absurd hx z⟩
  · cases rx
    cases ry
    obtain ⟨is1, r1, p1, _⟩ := I.tuple ha
    obtain ⟨is2, r2, p2, _⟩ := I.tuple hb
    refine HT.cat_tup p1 p2 (fun z => hx (r1.nil_iff.mp z)) (fun z => ⟨.ref a, H, I, rfl, q1 hx (r2.nil_iff.mp z)⟩) (fun z => ?_) (by rw [← r1.length, ← r2.length]; exact hz)
    exact newT_ep I (r1.append r2) (by rw [List.length_append]; exact hz) (q2 hx fun w => z (r2.nil_iff.mpr w))
def rSlN (K : PySem.W.Frag) : V → Option Int → Option Int → Hp → VK → Prop := fun x lo hi H Q => ∃ a xs, x = .ref a ∧ SqT K H a xs ∧
  (HT.sIx xs.length 0 lo = 0 ∧ HT.sIx xs.length xs.length hi = xs.length → Q (.ref a) H) ∧ (¬ (HT.sIx xs.length 0 lo = 0 ∧ HT.sIx xs.length xs.length hi = xs.length) → NewT H (cutV xs lo hi) Q)
theorem sl_tupN : SlR X (rSlN X.K) := by
  intro pins s σ H x v vl vu lo hi sl Q I rx hs pl pu h
  obtain ⟨a, xs, rfl, hx, q1, q2⟩ := h
  by_cases hw : HT.sIx xs.length 0 lo = 0 ∧ HT.sIx xs.length xs.length hi = xs.length
  · exact sl_tupA pins s σ H _ v vl vu lo hi sl Q I rx hs pl pu ⟨a, xs, rfl, hx, q1, fun z => absurd hw z⟩
  · cases rx
    obtain ⟨is1, r1, ht, hz⟩ := I.tuple hx
    have hl : is1.toArray.size = xs.length := by rw [List.size_toArray]; exact r1.length.symm
    refine ⟨"tuple", _, PyProof.Rows.slot_tuple_getitem.lookup, ht.typeIs, ?_⟩
    refine HT.getItem_tuple_cut ht hs pl pu (by rw [hl]; exact hw) ?_ (by rw [hl]; exact hz)
    rw [hl]
    exact newT_ep I ((r1.drop (HT.sIx xs.length 0 lo)).take (HT.sIx xs.length xs.length hi - HT.sIx xs.length 0 lo)) (Nat.le_trans (cutV_length xs lo hi) hz) (q2 hw)
def rRepN (K : PySem.W.Frag) : R2 := fun x y H Q => ∃ l k xs, x = .ref l ∧ y = .int k ∧ SqT K H l xs ∧ xs ≠ [] ∧ 2 ≤ k ∧ k ≤ 1000 ∧ xs.length ≤ 1000 ∧ NewT H (List.replicate k.toNat xs).flatten Q
theorem op_repN : OpR X (binaryOp .Mult) (rRepN X.K) := by
  intro pins s σ H x y v u Q I rx ry h
  obtain ⟨l, n0, xs, rfl, rfl, hT, hne, h1, h2, hz, q⟩ := h
  cases rx
  obtain ⟨t, rfl⟩ := ry
  obtain ⟨is1, r1, ⟨⟨cls, dc, data, sl⟩, ho, hc, n, hd⟩, hs⟩ := I.tuple hT
  simp only at hc hd
  subst hc hd
  have ln : is1.length = xs.length := r1.length.symm
  have ne1 : is1.toArray.isEmpty = false := by
    cases is1 with
    | nil => exact absurd (List.eq_nil_of_length_eq_zero ln.symm) hne
    | cons a b => rfl
  have sz : is1.toArray.size = xs.length := by rw [List.size_toArray, ln]
  have hm : ((is1.toArray.size : Nat) : Int) * n0 ≤ 1000000 := by
    rw [sz]
    have : ((xs.length : Nat) : Int) * n0 ≤ 1000 * n0 := Int.mul_le_mul_of_nonneg_right (by omega) (by omega)
    omega
  have fl : (List.replicate n0.toNat is1).flatten.length ≤ sizeLine := by
    rw [PyProof.Rows.lm_len_rep_flat, ln, sizeLine_eq]
    have : n0.toNat * xs.length ≤ 1000 * 1000 := Nat.mul_le_mul (by omega) hz
    omega
  have g0 : (decide (n0 < -(2 ^ 63)) || decide (n0 ≥ 2 ^ 63)) = false := by
    rw [decide_eq_false (by omega), decide_eq_false (by omega)]; rfl
  have g1 : (is1.toArray.isEmpty || n0 == 1) = false := by
    rw [ne1, Bool.false_or]; exact beq_eq_false_iff_ne.mpr (by omega)
  have g2 : (decide (n0 ≤ 0) || is1.toArray.isEmpty) = false := by
    rw [ne1, Bool.or_false]; exact decide_eq_false (by omega)
  have g4 : Builtin.Tuple.tupleTooMany (((is1.toArray.size : Nat) : Int) * n0) = false := by
    unfold Builtin.Tuple.tupleTooMany
    rw [sizeLine_eq]; exact decide_eq_false (by omega)
  have g3 : ¬ ((is1.toArray.size : Nat) : Int) * n0 > (2 ^ 63 - 1) / 8 := by omega
  have fz : (List.replicate n0.toNat xs).flatten.length ≤ sizeLine := by
    rw [PyProof.Rows.lm_len_rep_flat] at fl ⊢
    rw [← ln]; exact fl
  have W := tuple_mulW l is1.toArray n dc sl n0 t g0 g1 g2 g3 g4 (by rw [size_rep, List.size_toArray]; exact fl)
  refine wpAny_binaryOp_repeat_ref (T := "tuple") (U := "int") (by decide) ⟨_, ho, rfl⟩ (fun s1 => typeIs_int s1 n0 t) noFill_tuple_mul F.fills_int_mul F.slot_int_rmul repeat_tuple F.slot_int_index.lookup ?_
  refine call_meets F.slot_int_rmul (typeIs_int s n0 t) F.entry_int_rmul (F.args_int_rmul_2 _ _) (int_rmul_tuple n0 t l is1.toArray n dc sl) ⟨ho, rfl, ⟨_, ho, rfl⟩, ?_⟩
  refine call_meets F.slot_tuple_mul ⟨_, ho, rfl⟩ F.entry_tuple_mul (F.args_tuple_mul_2 _ _) W ⟨ho, ?_⟩
  rw [size_rep]
  exact newT_ep I (r1.rep n0.toNat) fz q
theorem call_tuple_ofN : CallR X (.type "tuple") (fun vs H Q => ∃ p ys, vs = [.ref p] ∧ ((SqL X.K H p ys ∧ NewT H ys Q) ∨ (SqT X.K H p ys ∧ Q (.ref p) H))) := by
  intro pins s σ H vs us Q I r h
  obtain ⟨p, ys, rfl, h⟩ := h
  rcases h with ⟨hq, q⟩ | ⟨hq, q⟩
  · obtain ⟨u, rfl, rx⟩ := vals1 r
    cases rx
    obtain ⟨is1, r1, pl, hz⟩ := I.list hq
    have hl := r1.length
    refine call_tuple_list pl.isList (fun h2 kp => ?_) (by simp only [List.size_toArray]; omega)
    have I1 : Inv X pins σ H { s with heap := h2 } := I.kept (t' := s.toks) kp
    exact newT_ep I1 r1 hz q
  · exact call_tuple_of pins s σ H _ us Q I r ⟨p, ys, rfl, .inr ⟨hq, q⟩⟩
end
end DL
namespace DL
open PySem L2 PySem.Spec
abbrev En := List PyData
abbrev Ef := En → Option (PyData × En)
abbrev Bf := En → Option (Bool × En)
abbrev Lf := En → Option (List PyData × En)
section
variable {K : PySem.W.Frag} {G G' H H' : Hp}
theorem ownA_take {ts : List Ty} {ds : List PyData} {vs : List (Option V)} {A : List Addr} (h : OwnA K G H ts ds vs A) {j : Nat} {t : Ty} (e : ts[j]? = some t) :
    ∃ d v Aj A0, ds[j]? = some d ∧ vs[j]? = some v ∧ Own K G H t d v Aj ∧ OwnA K G H (ts.set j .u) ds vs A0 ∧ A.Perm (Aj ++ A0) := by
  induction ts generalizing ds vs A j with
  | nil => simp at e
  | cons t0 ts ih =>
    cases h with
    | @cons _ _ d ds v vs A B h1 h2 =>
      cases j with
      | zero =>
        simp at e; subst e
        exact ⟨d, v, A, B, rfl, rfl, h1, by simpa using OwnA.cons (.u d v) h2, List.Perm.refl _⟩
      | succ j =>
        obtain ⟨d', v', Aj, A0, e1, e2, o1, o2, p⟩ := ih h2 (by simpa using e)
        refine ⟨d', v', Aj, A ++ A0, by simpa using e1, by simpa using e2, o1, OwnA.cons h1 o2, ?_⟩
        exact (List.Perm.append_left A p).trans (by rw [← List.append_assoc, ← List.append_assoc]; exact List.Perm.append_right _ List.perm_append_comm)
theorem ownA_put {ts : List Ty} {ds : List PyData} {vs : List (Option V)} {A0 : List Addr} (h : OwnA K G H ts ds vs A0) {j : Nat} (hj : ts[j]? = some .u) {t : Ty} {d : PyData} {v : Option V} {Aj : List Addr} (o : Own K G H t d v Aj) :
    ∃ A, OwnA K G H (ts.set j t) (ds.set j d) (vs.set j v) A ∧ A.Perm (Aj ++ A0) := by
  induction ts generalizing ds vs A0 j with
  | nil => simp at hj
  | cons t0 ts ih =>
    cases h with
    | @cons _ _ d0 ds v0 vs A B h1 h2 =>
      cases j with
      | zero =>
        simp at hj; subst hj
        cases h1
        exact ⟨Aj ++ B, by simpa using OwnA.cons o h2, by simp⟩
      | succ j =>
        obtain ⟨A', o2, p⟩ := ih h2 (by simpa using hj)
        refine ⟨A ++ A', by simpa using OwnA.cons h1 o2, ?_⟩
        exact (List.Perm.append_left A p).trans (by rw [← List.append_assoc, ← List.append_assoc]; exact List.Perm.append_right _ List.perm_append_comm)
theorem ownA_hide {ts : List Ty} {ds : List PyData} {vs : List (Option V)} {A : List Addr} (h : OwnA K G H ts ds vs A) (j : Nat) : ∃ A0, OwnA K G H (ts.set j .u) ds vs A0 ∧ ∃ B, A.Perm (B ++ A0) := by
  cases e : ts[j]? with
  | none => exact ⟨A, by rw [List.set_eq_of_length_le (by simpa using e)]; exact h, [], by simp⟩
  | some t =>
    obtain ⟨d, v, Aj, A0, _, _, _, o, p⟩ := ownA_take h e
    exact ⟨A0, o, Aj, p⟩
theorem ownA_getS {ts : List Ty} {ds : List PyData} {vs : List (Option V)} {A : List Addr} (h : OwnA K G H ts ds vs A) {j : Nat} (e : ts[j]? = some .s) : ∃ d v, ds[j]? = some d ∧ vs[j]? = some (some v) ∧ Dq K G v d := by
  obtain ⟨d, v, Aj, A0, e1, e2, o, _, _⟩ := ownA_take h e
  cases o with
  | s h => exact ⟨d, _, e1, e2, h⟩
end
theorem set_id {α : Type} {l : List α} {j : Nat} {x : α} (h : l[j]? = some x) : l.set j x = l := by
  apply List.ext_getElem?
  intro i
  rw [List.getElem?_set]
  split
  · rename_i hij; subst hij
    obtain ⟨h1, h2⟩ := List.getElem?_eq_some_iff.mp h
    simp [h1, h2]
  · rfl
theorem stt_frz {K : PySem.W.Frag} {G H : Hp} {m : List Ty} {σ : St} {e : En} {A : List Addr} {j : Nat} {t : Ty} (st : Stt K m G H σ e A) (hm : m[j]? = some t) (hn : nou t = true) :
    ∃ G' A', Step A G H A' G' H ∧ Stt K (m.set j .s) G' H σ e A' := by
  obtain ⟨d', v, Aj, A0, h1, h2, h3, h4, hp⟩ := ownA_take st.own hm
  have nd : (Aj ++ A0).Nodup := hp.nodup_iff.mp st.nd
  have st0 : Stt K (m.set j .u) G H σ e A0 := ⟨h4, (List.nodup_append.mp nd).2.1, st.sub⟩
  obtain ⟨s1, st1, sg, hl⟩ := frz st0 (own_at h3) nd
  obtain ⟨x, rfl, q⟩ := own_frz h3 sg hl hn
  have hj : (m.set j .u)[j]? = some .u := by
    have := (List.getElem?_eq_some_iff.mp hm).1
    simp [this]
  obtain ⟨A', o', p'⟩ := ownA_put st1.own hj (.s q)
  rw [set_id h1, set_id h2, List.set_set] at o'
  have pA : A'.Perm A0 := by simpa using p'
  refine ⟨_, A', ⟨s1.sg, fun a o h _ => h, fun a ha => .inl (hp.mem_iff.mpr (List.mem_append_right _ (pA.mem_iff.mp ha))), fun a h1 h2 => .inl ((s1.gnew a h1 h2).elim (fun z => hp.mem_iff.mpr z) fun z => ?_)⟩, ⟨o', pA.nodup_iff.mpr st1.nd, st1.sub⟩⟩
  obtain ⟨o, ho⟩ := h2
  by_cases q : a ∈ Aj
  · exact hp.mem_iff.mpr (List.mem_append_left _ q)
  · rw [lay_out q, h1] at ho; cases ho
def DE (K : PySem.W.Frag) (m : List Ty) (te : TE) (ty : Ty) (f : Ef) (m' : List Ty) : Prop :=
  ∀ {G H : Hp} {σ : St} {e : En} {A : List Addr} {d : PyData} {e' : En} {Q : VK}, Stt K m G H σ e A → f e = some (d, e') →
    (∀ (G' H' : Hp) (v : V) (Av A' : List Addr), Step A G H (Av ++ A') G' H' → Stt K m' G' H' σ e' A' → Own K G' H' ty d (some v) Av → (Av ++ A').Nodup → Q v H') → te σ H Q
def DT (K : PySem.W.Frag) (m : List Ty) (tt : TT) (f : Bf) (m' : List Ty) : Prop :=
  ∀ {G H : Hp} {σ : St} {e : En} {A : List Addr} {b : Bool} {e' : En} {Q : Bool → Hp → Prop}, Stt K m G H σ e A → f e = some (b, e') →
    (∀ (G' H' : Hp) (A' : List Addr), Step A G H A' G' H' → Stt K m' G' H' σ e' A' → Q b H') → tt σ H Q
def DA (K : PySem.W.Frag) (m : List Ty) (ta : TA) (tys : List Ty) (f : Lf) (m' : List Ty) : Prop :=
  ∀ {G H : Hp} {σ : St} {e : En} {A : List Addr} {ds : List PyData} {e' : En} {Q : List V → Hp → Prop}, Stt K m G H σ e A → f e = some (ds, e') →
    (∀ (G' H' : Hp) (vs : List V) (Av A' : List Addr), Step A G H (Av ++ A') G' H' → Stt K m' G' H' σ e' A' → OwnA K G' H' tys ds (vs.map some) Av → (Av ++ A').Nodup → Q vs H') → ta σ H Q
structure RoomU (k : Nat) (A : Around) : Prop where
  dp : A.depth + 3 * k + 5 < recursionLimit
  un : A.units + 16 * k + 200 < cLine
theorem _root_.L2.Room.u {k : Nat} {A : Around} (r : Room k A) : RoomU k A := ⟨r.dp, r.un⟩
class Fam {ι : Type} (Xf : ι → Cx) (P : outParam Program) (w : outParam World) (K : outParam PySem.W.Frag) (mg : outParam (Str → Option Value)) (base : outParam Heap) (n : outParam Nat) : Prop where
  prog : ∀ i, (Xf i).prog = P
  w_ : ∀ i, (Xf i).w = w
  kk : ∀ i, (Xf i).K = K
  mg_ : ∀ i, (Xf i).mg = mg
  base_ : ∀ i, (Xf i).base = base
  room : ∀ i, RoomU n (Xf i).A
  nd : ∀ i, (Xf i).N.Nodup
structure PD {ι : Type} (Xf : ι → Cx) (K : PySem.W.Frag) (m : List Ty) (e : Expr) (ty : Ty) (f : Ef) (m' : List Ty) : Prop where
  ex : ∃ te : TE, (∀ i, PE (Xf i) e te) ∧ DE K m te ty f m'
structure PB {ι : Type} (Xf : ι → Cx) (K : PySem.W.Frag) (m : List Ty) (e : Expr) (f : Bf) (m' : List Ty) : Prop where
  ex : ∃ tt : TT, (∀ i, PT (Xf i) e tt) ∧ DT K m tt f m'
structure PBw {ι : Type} (Xf : ι → Cx) (K : PySem.W.Frag) (m : List Ty) (e : Expr) (f : Bf) (m' : List Ty) : Prop where
  ex : ∃ tt : TT, (∀ i, PW (Xf i) e tt) ∧ DT K m tt f m'
structure PL {ι : Type} (Xf : ι → Cx) (K : PySem.W.Frag) (m : List Ty) (es : List Expr) (tys : List Ty) (f : Lf) (m' : List Ty) : Prop where
  ex : ∃ ta : TA, (∀ i, PA (Xf i) es ta) ∧ DA K m ta tys f m'
def D1 (K : PySem.W.Frag) (r : V → Hp → VK → Prop) (ty : Ty) (g : PyData → Option PyData) : Prop :=
  ∀ {m : List Ty} {G H : Hp} {σ : St} {e : En} {A : List Addr} {x : V} {dx d : PyData} {Q : VK}, Stt K m G H σ e A → Dq K G x dx → g dx = some d →
    (∀ (G' H' : Hp) (v : V) (Av A' : List Addr), Step A G H (Av ++ A') G' H' → Stt K m G' H' σ e A' → Own K G' H' ty d (some v) Av → (Av ++ A').Nodup → Q v H') → r x H Q
def D2 (K : PySem.W.Frag) (r : R2) (ty : Ty) (g : PyData → PyData → Option PyData) : Prop :=
  ∀ {m : List Ty} {G H : Hp} {σ : St} {e : En} {A : List Addr} {x y : V} {dx dy d : PyData} {Q : VK}, Stt K m G H σ e A → Dq K G x dx → Dq K G y dy → g dx dy = some d →
    (∀ (G' H' : Hp) (v : V) (Av A' : List Addr), Step A G H (Av ++ A') G' H' → Stt K m G' H' σ e A' → Own K G' H' ty d (some v) Av → (Av ++ A').Nodup → Q v H') → r x y H Q
structure Op2 {ι : Type} (Xf : ι → Cx) (K : PySem.W.Frag) (op : Value → Value → Sem Value) (ty : Ty) (g : PyData → PyData → Option PyData) : Prop where
  ex : ∃ r : R2, (∀ i, OpR (Xf i) op r) ∧ D2 K r ty g
structure Ix2 {ι : Type} (Xf : ι → Cx) (K : PySem.W.Frag) (ty : Ty) (g : PyData → PyData → Option PyData) : Prop where
  ex : ∃ r : R2, (∀ i, IxR (Xf i) r) ∧ D2 K r ty g
structure Cl1 {ι : Type} (Xf : ι → Cx) (K : PySem.W.Frag) (fn : Value) (ty : Ty) (g : PyData → Option PyData) : Prop where
  ex : ∃ r : List V → Hp → VK → Prop, (∀ i, CallR (Xf i) fn r) ∧ D1 K (fun x => r [x]) ty g
structure Cl2 {ι : Type} (Xf : ι → Cx) (K : PySem.W.Frag) (fn : Value) (ty : Ty) (g : PyData → PyData → Option PyData) : Prop where
  ex : ∃ r : List V → Hp → VK → Prop, (∀ i, CallR (Xf i) fn r) ∧ D2 K (fun x y => r [x, y]) ty g
section
variable {K : PySem.W.Frag} {G H : Hp} {m : List Ty} {σ : St} {e : En} {A : List Addr} {d : PyData} {Q : VK} {ty : Ty}
theorem ans_s (st : Stt K m G H σ e A) {v : V} (h : Dq K G v d) (k : ∀ (G' H' : Hp) (v : V) (Av A' : List Addr), Step A G H (Av ++ A') G' H' → Stt K m G' H' σ e A' → Own K G' H' .s d (some v) Av → (Av ++ A').Nodup → Q v H') : Q v H :=
  k G H v [] A Step.refl st (.s h) st.nd
theorem ans_tup (st : Stt K m G H σ e A) {vs : List V} {ds : List PyData} (h : DqA K G vs ds) (hz : vs.length ≤ sizeLine) (k : ∀ (G' H' : Hp) (v : V) (Av A' : List Addr), Step A G H (Av ++ A') G' H' → Stt K m G' H' σ e A' → Own K G' H' .s (.tuple ds) (some v) Av → (Av ++ A').Nodup → Q v H') :
    NewT H vs Q := fun p o hc hd hp => by
  obtain ⟨s1, st1, sg⟩ := new_s (o := .frz o (.tup vs)) st hp
  have h' := h.mono sg
  exact k _ _ _ [] A s1 st1 (.s (.tup (.inl ⟨o, hc, hd, upd_same⟩) h'.1 hz h'.2)) st1.nd
theorem ownA_of {G H : Hp} : ∀ {vs : List V} {ds : List PyData}, DqA K G vs ds → OwnA K G H (List.replicate ds.length .s) ds (vs.map some) []
  | [], [], _ => .nil
  | v :: vs, d :: ds, h => OwnA.cons (A := []) (.s h.head) (ownA_of h.tail)
  | [], _ :: _, h => by have := h.1; simp at this
  | _ :: _, [], h => by have := h.1; simp at this
theorem of_ownA {G H : Hp} : ∀ {n : Nat} {vs : List V} {ds : List PyData} {A : List Addr}, OwnA K G H (List.replicate n .s) ds (vs.map some) A → A = [] ∧ DqA K G vs ds
  | 0, [], _, _, h => by cases h; exact ⟨rfl, DqA.nil⟩
  | 0, _ :: _, _, _, h => by cases h
  | n + 1, [], _, _, h => by cases h
  | n + 1, v :: vs, _, _, h => by
    cases h with
    | cons h1 h2 =>
      obtain ⟨e2, q2⟩ := of_ownA (n := n) h2
      cases h1 with
      | s h1 => subst e2; exact ⟨rfl, DqA.cons h1 q2⟩
theorem ans_lst (st : Stt K m G H σ e A) {vs : List V} {ds : List PyData} (h : DqA K G vs ds) (hz : vs.length ≤ sizeLine) (k : ∀ (G' H' : Hp) (v : V) (Av A' : List Addr), Step A G H (Av ++ A') G' H' → Stt K m G' H' σ e A' → Own K G' H' (.l .s) (.list ds) (some v) Av → (Av ++ A').Nodup → Q v H') :
    ∀ p, H p = none → Q (.ref p) (upd H p (.lst vs)) := fun p hp => by
  obtain ⟨s1, st1, nd, gp⟩ := new_o (o := .lst vs) (B := []) st hp
  exact k _ _ _ [p] A s1 st1 (.l gp upd_same hz (ownA_of h)) nd
end
def eVar (j : Nat) : Ef := fun e => some (e.getD j .none, e)
def eC (d : PyData) : Ef := fun e => some (d, e)
def e1 (g : PyData → Option PyData) (a : Ef) : Ef := fun e => (a e).bind fun p => (g p.1).bind fun r => some (r, p.2)
def e2 (g : PyData → PyData → Option PyData) (a b : Ef) : Ef := fun e => (a e).bind fun p => (b p.2).bind fun q => (g p.1 q.1).bind fun r => some (r, q.2)
section
variable {ι : Type} {Xf : ι → Cx} {P : Program} {w : World} {K : PySem.W.Frag} {mg : Str → Option Value} {base : Heap} {n : Nat} [F : Fam Xf P w K mg base n]
variable {m m1 m2 m3 : List Ty} {pos p p2 : Pos} {a b c : Expr} {f g h : Ef}
theorem pd_var (j : Nat) {x : Str} (hm : m[j]? = some .s := by rfl) (hN : ∀ i, (Xf i).N[j]? = some x := by intro _; rfl)
    (hv : ∀ i, Vis (Xf i).env.scope x := by first | (intro _; exact Or.inl rfl) | (intro _; exact Or.inr (Or.inl rfl)) | (intro _; exact Or.inr (Or.inr rfl))) (hd : (x == ("__debug__" : Str)) = false := by decide)
    (hcd : (x == ("__classdict__" : Str)) = false := by decide) : PD Xf K m (.Name x pos) .s (eVar j) m := by
  refine ⟨tVar j, fun i => pe_var (hN i) (hv i) hd hcd, fun {G H σ e A d e' Q} st hf k => ?_⟩
  obtain ⟨d', v, h1, h2, h3⟩ := ownA_getS st.own hm
  cases hf
  rw [List.getD_eq_getElem?_getD, h1] at k
  exact ⟨v, h2, ans_s st h3 k⟩
theorem pd_frzVar (j : Nat) {t : Ty} {x : Str} (hm : m[j]? = some t := by rfl) (hn : nou t = true := by rfl) (hN : ∀ i, (Xf i).N[j]? = some x := by intro _; rfl)
    (hv : ∀ i, Vis (Xf i).env.scope x := by first | (intro _; exact Or.inl rfl) | (intro _; exact Or.inr (Or.inl rfl)) | (intro _; exact Or.inr (Or.inr rfl))) (hd : (x == ("__debug__" : Str)) = false := by decide)
    (hcd : (x == ("__classdict__" : Str)) = false := by decide) : PD Xf K m (.Name x pos) .s (eVar j) (m.set j .s) := by
  refine ⟨tVar j, fun i => pe_var (hN i) (hv i) hd hcd, fun {G H σ e A d e' Q} st hf k => ?_⟩
  obtain ⟨G', A', s0, st2⟩ := stt_frz st hm hn
  obtain ⟨d', v, h1, h2, h3⟩ := ownA_getS st2.own (j := j) (by have := (List.getElem?_eq_some_iff.mp hm).1; simp [this])
  cases hf
  rw [List.getD_eq_getElem?_getD, h1] at k
  exact ⟨v, h2, k _ _ v [] A' s0 st2 (.s h3) st2.nd⟩
theorem pd_int {i : Int} {j} : PD Xf K m (.Constant (.int i) j pos) .s (eC (.int i)) m := ⟨_, fun _ => pe_int, fun {G H σ e A d e' Q} st hf k => by cases hf; exact ans_s st (.int i) k⟩
theorem pd_bool {i : Bool} {j} : PD Xf K m (.Constant (.bool i) j pos) .s (eC (.bool i)) m := ⟨_, fun _ => pe_bl, fun {G H σ e A d e' Q} st hf k => by cases hf; exact ans_s st (.bl i) k⟩
theorem pd_none {j} : PD Xf K m (.Constant .none j pos) .s (eC .none) m := ⟨_, fun _ => pe_non, fun {G H σ e A d e' Q} st hf k => by cases hf; exact ans_s st .non k⟩
theorem pd_str {x : Str} {j} (hx : x.length ≤ sizeLine := by decide +kernel) : PD Xf K m (.Constant (.str x) j pos) .s (eC (.str x)) m := ⟨_, fun _ => pe_str, fun {G H σ e A d e' Q} st hf k => by cases hf; exact ans_s st (.str x hx) k⟩
theorem DE.bin {r : R2} {ta tb : TE} {ty : Ty} {gg : PyData → PyData → Option PyData} (ha : DE K m ta .s f m1) (hb : DE K m1 tb .s g m2) (hr : D2 K r ty gg) : DE K m (tOp r ta tb) ty (e2 gg f g) m2 := by
  intro G H σ e A d e' Q st hf k
  unfold e2 at hf
  obtain ⟨⟨d1, e1⟩, hf1, hf⟩ := oBs hf
  obtain ⟨⟨d2, e2⟩, hf2, hf⟩ := oBs hf
  obtain ⟨d3, hf3, hf⟩ := oBs hf
  cases hf
  refine ha st hf1 fun G1 H1 v1 A1 B1 s1 st1 o1 nd1 => ?_
  cases o1 with
  | s q1 =>
    refine hb st1 hf2 fun G2 H2 v2 A2 B2 s2 st2 o2 nd2 => ?_
    cases o2 with
    | s q2 => exact hr st2 (q1.mono s2.sg) q2 hf3 fun G3 H3 v3 A3 B3 s3 st3 o3 nd3 => k G3 H3 v3 A3 B3 ((s1.seq0 s2).seq0 s3) st3 o3 nd3
theorem DE.un {r : V → Hp → VK → Prop} {ta : TE} {ty : Ty} {gg : PyData → Option PyData} (ha : DE K m ta .s f m1) (hr : D1 K r ty gg) : DE K m (fun σ H Q => ta σ H fun x H1 => r x H1 Q) ty (e1 gg f) m1 := by
  intro G H σ e A d e' Q st hf k
  unfold e1 at hf
  obtain ⟨⟨d1, e1⟩, hf1, hf⟩ := oBs hf
  obtain ⟨d3, hf3, hf⟩ := oBs hf
  cases hf
  refine ha st hf1 fun G1 H1 v1 A1 B1 s1 st1 o1 nd1 => ?_
  cases o1 with
  | s q1 => exact hr st1 q1 hf3 fun G3 H3 v3 A3 B3 s3 st3 o3 nd3 => k G3 H3 v3 A3 B3 (s1.seq0 s3) st3 o3 nd3
theorem pd_bin {op : Operator} {ty : Ty} {gg : PyData → PyData → Option PyData} (ho : Op2 Xf K (binaryOp op) ty gg) (ha : PD Xf K m a .s f m1) (hb : PD Xf K m1 b .s g m2) : PD Xf K m (.BinOp a op b pos) ty (e2 gg f g) m2 := by
  obtain ⟨r, hr, dr⟩ := ho.ex
  obtain ⟨ta, pa, da⟩ := ha.ex
  obtain ⟨tb, pb, db⟩ := hb.ex
  exact ⟨_, fun i => pe_op (hr i) (pa i) (pb i), DE.bin da db dr⟩
theorem pd_cmp {op : CmpOp} {ty : Ty} {gg : PyData → PyData → Option PyData} (ho : Op2 Xf K (compareOp op) ty gg) (ha : PD Xf K m a .s f m1) (hb : PD Xf K m1 b .s g m2) (hm : behindInMarks op b = false := by first | exact nomark _ | rfl) : PD Xf K m (.Compare a [op] [b] pos) ty (e2 gg f g) m2 := by
  obtain ⟨r, hr, dr⟩ := ho.ex
  obtain ⟨ta, pa, da⟩ := ha.ex
  obtain ⟨tb, pb, db⟩ := hb.ex
  exact ⟨_, fun i => pe_cmpR (hr i) (pa i) (pb i) hm, DE.bin da db dr⟩
theorem pd_ix {ty : Ty} {gg : PyData → PyData → Option PyData} (ho : Ix2 Xf K ty gg) (ha : PD Xf K m a .s f m1) (hb : PD Xf K m1 b .s g m2) (hs : PlainIx b := by exact fun _ _ => rfl) : PD Xf K m (.Subscript a b pos) ty (e2 gg f g) m2 := by
  obtain ⟨r, hr, dr⟩ := ho.ex
  obtain ⟨ta, pa, da⟩ := ha.ex
  obtain ⟨tb, pb, db⟩ := hb.ex
  exact ⟨_, fun i => pe_ix (hr i) (pa i) (pb i) hs, DE.bin da db dr⟩
theorem pd_frz {ty : Ty} (ha : PD Xf K m a ty f m1) (hn : nou ty = true := by rfl) : PD Xf K m a .s f m1 := by
  obtain ⟨ta, pa, da⟩ := ha.ex
  refine ⟨ta, pa, fun {G H σ e A d e' Q} st hf k => da st hf fun G1 H1 v1 A1 B1 s1 st1 o1 nd1 => ?_⟩
  obtain ⟨s2, st2, sg, hl⟩ := frz st1 (own_at o1) nd1
  obtain ⟨x, hx, q⟩ := own_frz o1 sg hl hn
  cases hx
  have s0 : Step A G H ([] ++ B1) (lay G1 H1 A1) H1 := s1.seq0 s2
  exact k _ _ v1 [] B1 s0 st2 (.s q) st2.nd
end
end DL
namespace DL
open PySem L2 PySem.Spec
mutual
def noOb : PyData → Bool
  | .list xs => noObA xs
  | .tuple xs => noObA xs
  | .dict kvs => (match kvs with | [(.tuple _, _)] => false | _ => true)
  | _ => true
def noObA : List PyData → Bool
  | [] => true
  | x :: xs => noOb x && noObA xs
end
theorem noObA_at : ∀ {xs : List PyData}, noObA xs = true → ∀ {i : Nat} {d : PyData}, xs[i]? = some d → noOb d = true
  | [], _, i, d, h => by simp at h
  | x :: xs, h, i, d, e => by
    have h := (Bool.and_eq_true ..).mp (show (noOb x && noObA xs) = true from h)
    cases i with
    | zero => simp at e; subst e; exact h.1
    | succ i => exact noObA_at h.2 (i := i) (by simpa using e)
mutual
theorem plain_noOb : ∀ d : PyData, d.plain = true → noOb d = true
  | .none, _ => rfl
  | .bool _, _ => rfl
  | .int _, _ => rfl
  | .str _, _ => rfl
  | .list xs, h => plainAll_noOb xs h
  | .tuple xs, h => plainAll_noOb xs h
  | .dict _, h => by cases h
theorem plainAll_noOb : ∀ xs : List PyData, PyData.plainAll xs = true → noObA xs = true
  | [], _ => rfl
  | x :: xs, h => by
    have h := (Bool.and_eq_true ..).mp (show (x.plain && PyData.plainAll xs) = true from h)
    exact (Bool.and_eq_true ..).mpr ⟨plain_noOb x h.1, plainAll_noOb xs h.2⟩
end
theorem ft_noOb : ∀ (n : Nat) {d : PyData}, ftS n d = true → noOb d = true
  | n, .none, _ => rfl
  | n, .bool _, _ => rfl
  | n, .int _, _ => rfl
  | n, .str _, _ => rfl
  | n + 1, .tuple xs, h => by
    have h : xs.all (ftS n) = true := h
    show noObA xs = true
    have key : ∀ xs : List PyData, xs.all (ftS n) = true → noObA xs = true := fun xs => by
      induction xs with
      | nil => intro _; rfl
      | cons x xs ih =>
        intro h
        rw [List.all_cons, Bool.and_eq_true] at h
        exact (Bool.and_eq_true ..).mpr ⟨ft_noOb n h.1, ih h.2⟩
    exact key xs h
  | 0, .tuple _, h => by cases h
  | n, .list _, h => by cases n <;> cases h
  | n, .dict _, h => by cases n <;> cases h
section
variable {X : Cx} {pins : List (Addr × Obj)} {σ : St} {H : Hp} {s : Shared}
theorem rdL (I : Inv X pins σ H s) {a : Addr} {xs : List V} (h : Rd H a (.lst xs)) : xs.length ≤ sizeLine ∧ ∃ (its : List Value) (n : Nat), Vals xs its ∧ s.heap.get? a = some { cls := .type "list", data := .seq its.toArray n } := h.ok I.hok
theorem rdD (I : Inv X pins σ H s) {a : Addr} {kvs : List (Str × Int)} (h : Rd H a (.dK (kvs.map fun p => (Sum.inr p.1, V.int p.2)))) :
    ∃ o es ep, s.heap.get? a = some o ∧ o.ExactDict ∧ o.data = .dict es ep ∧ Paired (fun (e : DictEntry) (p : Str × Int) => (∃ t, e.key = .str p.1 t) ∧ ∃ t, e.val = .int p.2 t) es.toList kvs ∧ (a == sysModules) = false := by
  have k : ∃ vs, KV (kvs.map fun p => ((Sum.inr p.1 : Key), V.int p.2)) vs ∧ s.heap.DictOf (mixKind X.prog X.w) a vs := by
    rcases h with h | ⟨o, h⟩
    · obtain ⟨_, _, vs, r, m⟩ : _ ∧ (a == sysModules) = false ∧ ∃ vs, KV _ vs ∧ s.heap.DictOf (mixKind X.prog X.w) a vs := I.hok a _ h
      exact ⟨vs, r, m⟩
    · obtain ⟨_, _, _, vs, r, m⟩ : _ ∧ (_ ∧ (a == sysModules) = false ∧ ∃ vs, KV _ vs ∧ s.heap.DictOf (mixKind X.prog X.w) a vs) := I.hok a _ h
      exact ⟨vs, r, m⟩
  have hne : (a == sysModules) = false := by
    rcases h with h | ⟨o, h⟩
    · obtain ⟨_, z, _⟩ : _ ∧ (a == sysModules) = false ∧ ∃ vs, KV _ vs ∧ s.heap.DictOf (mixKind X.prog X.w) a vs := I.hok a _ h
      exact z
    · obtain ⟨_, _, z, _⟩ : _ ∧ (_ ∧ (a == sysModules) = false ∧ ∃ vs, KV _ vs ∧ s.heap.DictOf (mixKind X.prog X.w) a vs) := I.hok a _ h
      exact z
  obtain ⟨vs, r, o, es, ep, h1, h2, h3, h4, h5, h6⟩ := k
  clear h4 h6
  refine ⟨o, es, ep, h1, h2, h3, ?_, hne⟩
  generalize es.toList = el at h5
  clear h1 h2 h3 hne h
  revert r
  induction h5 generalizing kvs with
  | nil =>
    intro r
    cases kvs with
    | nil => exact .nil
    | cons p kvs => cases r
  | @cons e kv es' kvs' hk hv _ ih =>
    intro r
    cases kvs with
    | nil => cases r
    | cons p kvs =>
      cases r with
      | cons h t =>
        obtain ⟨ha, hb⟩ := h
        refine .cons ⟨?_, ?_⟩ (ih t)
        · have hk' : keyIs (Sum.inr p.1) e.key = true := by rw [← ha] at hk; exact hk
          rcases keyIs_shape hk' with ⟨i, t, z, _⟩ | ⟨x, t, z, q⟩
          · cases z
          · cases z; exact ⟨t, q⟩
        · obtain ⟨t, q⟩ := hb
          exact ⟨t, by rw [hv, q]⟩
theorem rdD1 (I : Inv X pins σ H s) {a : Addr} {k : Str} {v : V} (h : Rd H a (.dK [(Sum.inr k, v)])) :
    ∃ o es ep, s.heap.get? a = some o ∧ o.ExactDict ∧ o.data = .dict es ep ∧ (∃ e t, es.toList = [e] ∧ e.key = .str k t ∧ RelV v e.val) ∧ (a == sysModules) = false := by
  have kk : (a == sysModules) = false ∧ ∃ vs, KV [((Sum.inr k : Key), v)] vs ∧ s.heap.DictOf (mixKind X.prog X.w) a vs := by
    rcases h with h | ⟨o, h⟩
    · obtain ⟨_, z, vs, r, m⟩ : _ ∧ (a == sysModules) = false ∧ ∃ vs, KV _ vs ∧ s.heap.DictOf (mixKind X.prog X.w) a vs := I.hok a _ h
      exact ⟨z, vs, r, m⟩
    · obtain ⟨_, _, z, vs, r, m⟩ : _ ∧ (_ ∧ (a == sysModules) = false ∧ ∃ vs, KV _ vs ∧ s.heap.DictOf (mixKind X.prog X.w) a vs) := I.hok a _ h
      exact ⟨z, vs, r, m⟩
  obtain ⟨hne, vs, r, o, es, ep, h1, h2, h3, h4, h5, h6⟩ := kk
  refine ⟨o, es, ep, h1, h2, h3, ?_, hne⟩
  generalize es.toList = el at h5
  clear h1 h2 h3 h4 h6 hne h
  cases vs with
  | nil => cases r
  | cons q qs =>
    cases r with
    | cons r1 r2 =>
      cases r2
      cases h5 with
      | @cons e kv es' kvs' hk hv h5' =>
        cases h5'
        obtain ⟨ha, hb⟩ := r1
        have hk' : keyIs (Sum.inr k) e.key = true := by rw [show (Sum.inr k : Key) = q.1 from ha]; exact hk
        rcases keyIs_shape hk' with ⟨i, t, z, _⟩ | ⟨x, t, z, w⟩
        · cases z
        · cases z
          exact ⟨e, t, rfl, w, by rw [hv]; exact hb⟩
theorem reads_ft {h : Heap} : ∀ (n : Nat) {d : PyData} {u : Value} {as : List Addr}, ftS n d = true → Reads h u d as → as = []
  | n, .none, _, _, _, r => by cases r; rfl
  | n, .bool _, _, _, _, r => by cases r; rfl
  | n, .int _, _, _, _, r => by cases r; rfl
  | n, .str _, _, _, _, r => by cases r; rfl
  | n + 1, .tuple xs, _, _, hf, r => by
    cases r with
    | tuple _ _ _ ra =>
      have hf : xs.all (ftS n) = true := hf
      have key : ∀ (xs : List PyData) (us : List Value) (as : List Addr), xs.all (ftS n) = true → ReadsAll h us xs as → as = [] := fun xs => by
        induction xs with
        | nil => intro us as _ ra; cases ra; rfl
        | cons x xs ih =>
          intro us as hf ra
          rw [List.all_cons, Bool.and_eq_true] at hf
          cases ra with
          | cons r1 r2 => rw [reads_ft n hf.1 r1, ih _ _ hf.2 r2]; rfl
      exact key xs _ _ hf ra
  | 0, .tuple xs, _, _, hf, r => by cases hf
  | n, .list _, _, _, hf, _ => by cases n <;> cases hf
  | n, .dict _, _, _, hf, _ => by cases n <;> cases hf
theorem readsKV_of {h : Heap} : ∀ {es : List DictEntry} {kvs : List (Str × Int)}, Paired (fun (e : DictEntry) (p : Str × Int) => (∃ t, e.key = .str p.1 t) ∧ ∃ t, e.val = .int p.2 t) es kvs →
    ∃ as, ReadsAll h (es.map (·.key)) (kvs.map fun p => PyData.str p.1) as ∧ ∃ bs, ReadsAll h (es.map (·.val)) (kvs.map fun p => PyData.int p.2) bs
  | [], [], .nil => ⟨_, .nil, _, .nil⟩
  | e :: es, p :: kvs, .cons h t => by
    obtain ⟨⟨t1, h1⟩, t2, h2⟩ := h
    obtain ⟨as, k1, bs, k2⟩ := readsKV_of t
    refine ⟨[] ++ as, ?_, [] ++ bs, ?_⟩
    · rw [List.map_cons, List.map_cons, h1]; exact .cons (.str _ _) k1
    · rw [List.map_cons, List.map_cons, h2]; exact .cons (.int _ _) k2
theorem readsAll_of {P : V → PyData → Prop} (hp : ∀ v d u, P v d → RelV v u → ∃ as, Reads s.heap u d as) : ∀ {xs : List V} {ds : List PyData} {us : List Value}, xs.length = ds.length → (∀ (i : Nat) v d, xs[i]? = some v → ds[i]? = some d → P v d) → Vals xs us → ∃ as, ReadsAll s.heap us ds as
  | [], [], _, _, _, .nil => ⟨_, .nil⟩
  | v :: vs, d :: ds, _, hl, h, .cons r rs => by
    obtain ⟨as, q⟩ := hp v d _ (h 0 v d rfl rfl) r
    obtain ⟨bs, qs⟩ := readsAll_of hp (xs := vs) (ds := ds) (by simpa using hl) (fun i v d a b => h (i + 1) v d (by simpa using a) (by simpa using b)) rs
    exact ⟨_, .cons q qs⟩
  | [], _ :: _, _, hl, _, _ => by simp at hl
  | _ :: _, [], _, hl, _, _ => by simp at hl
theorem Dq.reads (I : Inv X pins σ H s) {v : V} {d : PyData} (h : Dq X.K H v d) : noOb d = true → ∀ {u : Value}, RelV v u → ∃ as, Reads s.heap u d as := by
  induction h with
  | non => intro _ u r; cases r; exact ⟨_, .none⟩
  | bl b => intro _ u r; cases r; exact ⟨_, .bool b⟩
  | int i => intro _ u r; obtain ⟨t, rfl⟩ := r; exact ⟨_, .int i t⟩
  | str x _ => intro _ u r; obtain ⟨t, rfl⟩ := r; exact ⟨_, .str x t⟩
  | lst hs hl hz _ ih =>
    intro no u r
    cases r
    obtain ⟨_, its, n, rv, ho⟩ := rdL I hs
    obtain ⟨as, q⟩ := readsAll_of (P := fun v d => ∀ {u : Value}, RelV v u → ∃ as, Reads s.heap u d as) (fun v d u h r => h r) hl (fun i v d a b => ih i v d a b (noObA_at no b)) rv
    exact ⟨_, Reads.list ho rfl rfl q⟩
  | tup hs hl hz _ ih =>
    intro no u r
    cases r
    obtain ⟨its, rv, ⟨o, ho, hc, n, hd⟩, _⟩ := I.tuple hs.sq
    obtain ⟨as, q⟩ := readsAll_of (P := fun v d => ∀ {u : Value}, RelV v u → ∃ as, Reads s.heap u d as) (fun v d u h r => h r) hl (fun i v d a b => ih i v d a b (noObA_at no b)) rv
    exact ⟨_, Reads.tuple ho hc hd q⟩
  | ob => intro no; cases no
  | @dv a k v d hs hf _ ih =>
    intro _ u r
    cases r
    obtain ⟨o, es, ep, ho, hx, hd, ⟨e, t, e1, e2, e3⟩, _⟩ := rdD1 I hs
    obtain ⟨as, q⟩ := ih (ft_noOb 3 hf) e3
    exact ⟨_, Reads.dict (as := [] ++ []) (bs := as ++ []) ho hx.1 hd (by rw [e1, List.map_cons, e2]; exact .cons (.str _ _) .nil) (by rw [e1]; exact .cons q .nil)⟩
  | @dic a kvs hs hz _ =>
    intro _ u r
    cases r
    obtain ⟨o, es, ep, ho, hx, hd, hp, _⟩ := rdD I hs
    obtain ⟨as, h1, bs, h2⟩ := readsKV_of (h := s.heap) hp
    exact ⟨_, Reads.dict (as := as) (bs := bs) ho hx.1 hd (by rw [List.map_map]; exact h1) (by rw [List.map_map]; exact h2)⟩
theorem DqA.reads (I : Inv X pins σ H s) {xs : List V} {ds : List PyData} (h : DqA X.K H xs ds) (no : noObA ds = true) {us : List Value} (r : Vals xs us) : ∃ as, ReadsAll s.heap us ds as :=
  readsAll_of (P := fun v d => Dq X.K H v d ∧ noOb d = true) (fun v d u h r => h.1.reads I h.2 r) h.1 (fun i v d a b => ⟨h.2 i v d a b, noObA_at no b⟩) r
theorem dq_mem {K : PySem.W.Frag} {G : Hp} {xs : List V} {ds : List PyData} (h : DqA K G xs ds) {d : PyData} (hd : d ∈ ds) : ∃ v, Dq K G v d := by
  obtain ⟨i, hi⟩ := List.mem_iff_getElem?.mp hd
  obtain ⟨v, _, q⟩ := h.get hi
  exact ⟨v, q⟩
theorem fits_of {K : PySem.W.Frag} {G : Hp} {v : V} {d : PyData} (h : Dq K G v d) : d.fits63 := by
  cases h with
  | non => trivial
  | bl => trivial
  | int => trivial
  | str x hx => have : sizeLine < 2 ^ 63 := by decide
                simp only [PyData.fits63]; omega
  | lst _ hl hz _ => have : sizeLine < 2 ^ 63 := by decide
                     simp only [PyData.fits63]; omega
  | tup _ hl hz _ => have : sizeLine < 2 ^ 63 := by decide
                     simp only [PyData.fits63]; omega
  | ob => simp [PyData.fits63, obD]
  | dv => simp [PyData.fits63]
  | dic _ hz _ => simp only [PyData.fits63, List.length_map]
end
def scV : PyData → Option V
  | .none => some .non
  | .bool b => some (.bl b)
  | .int i => some (.int i)
  | _ => none
theorem scV_dq {K : PySem.W.Frag} {G : Hp} {d : PyData} {v : V} (h : scV d = some v) : Dq K G v d := by
  cases d with
  | none => cases h; exact .non
  | bool b => cases h; exact .bl b
  | int i => cases h; exact .int i
  | _ => cases h
def r2S (K : PySem.W.Frag) (g : PyData → PyData → Option PyData) : R2 := fun x y H Q => ∃ dx dy d v, Dq K H x dx ∧ Dq K H y dy ∧ g dx dy = some d ∧ scV d = some v ∧ Q v H
theorem d2S {K : PySem.W.Frag} {g : PyData → PyData → Option PyData} (hg : ∀ a b d, g a b = some d → ∃ v, scV d = some v) : D2 K (r2S K g) .s g := fun st hx hy e k => by
  obtain ⟨v, hv⟩ := hg _ _ _ e
  exact ⟨_, _, _, v, hx.mono st.sub, hy.mono st.sub, e, hv, ans_s st (scV_dq hv) k⟩
def dep (a b : PyData) : Bool := decide (min a.depth b.depth ≤ 60)
def nilR (a b : PyData) : Bool := match a, b with
  | .tuple _, .tuple [] => true
  | .list _, .list [] => true
  | _, _ => false
def pln (a b : PyData) : Bool := (a.plain && b.plain) || nilR a b
def gEq (a b : PyData) : Option PyData := if (dep a b && pln a b) = true then some (.bool (PyData.eqv a b)) else none
def gNe (a b : PyData) : Option PyData := if (dep a b && pln a b) = true then some (.bool (!PyData.eqv a b)) else none
def cmpOk (a b : PyData) : Bool := PySem.W.alike a b && (match a with | .none => false | _ => true) && dep a b && (noOb a && noOb b)
def gLt : PyData → PyData → Option PyData
  | .int i, .int j => some (.bool (decide (i < j)))
  | a, b => if cmpOk a b = true then some (.bool (PySem.W.dataLt a b)) else none
def gGt : PyData → PyData → Option PyData
  | .int i, .int j => some (.bool (decide (j < i)))
  | a, b => if cmpOk a b = true then some (.bool (PySem.W.dataLt b a)) else none
def gLe : PyData → PyData → Option PyData
  | .int i, .int j => some (.bool (decide (i ≤ j)))
  | a, b => if cmpOk a b = true then some (.bool (!PySem.W.dataLt b a)) else none
def gGe : PyData → PyData → Option PyData
  | .int i, .int j => some (.bool (decide (j ≤ i)))
  | a, b => if cmpOk a b = true then some (.bool (!PySem.W.dataLt a b)) else none
def isTD : PyData → PyData → Option Bool
  | .none, .none => some true
  | _, .none => some false
  | .bool a, .bool b => some (a == b)
  | _, .bool _ => some false
  | _, _ => none
def gIs (a b : PyData) : Option PyData := (isTD a b).map .bool
def gIsNot (a b : PyData) : Option PyData := (isTD a b).map fun k => .bool (!k)
def gIn (x : PyData) : PyData → Option PyData
  | .list ys => if (decide (min (PyData.depthAll ys) x.depth ≤ 60) && (PyData.plainAll ys && x.plain)) = true then some (.bool (ys.any fun y => PyData.eqv y x)) else none
  | .tuple ys => if (decide (min (PyData.depthAll ys) x.depth ≤ 60) && (PyData.plainAll ys && x.plain)) = true then some (.bool (ys.any fun y => PyData.eqv y x)) else none
  | _ => none
theorem hu60 {A : Around} {k n : Nat} (hr : RoomU n A) (h : k ≤ 60) : A.units + 1 + k < cLine := by have := hr.un; omega
theorem ite_some {α : Type} {c : Prop} [Decidable c] {a b : α} (h : (if c then some a else none) = some b) : c ∧ a = b := by
  split at h
  · rename_i hc; exact ⟨hc, Option.some.inj h⟩
  · cases h
theorem RelV.sc {d : PyData} {v : V} (h : scV d = some v) : True := trivial
theorem boolE {X : Cx} {pins : List (Addr × Obj)} {σ : St} {H : Hp} {s : Shared} {Q : VK} (I : Inv X pins σ H s) {b : Bool} {v : V} (h : scV (.bool b) = some v) (q : Q v H) : EP X pins σ Q (.bool b) s := by
  cases h
  exact ⟨.bl b, H, I, rfl, q⟩
theorem dep_ok {a b : PyData} (h : (dep a b && pln a b) = true) : min a.depth b.depth ≤ 60 ∧ ((a.plain = true ∧ b.plain = true) ∨ nilR a b = true) := by
  unfold dep pln at h
  simp only [Bool.and_eq_true, Bool.or_eq_true, decide_eq_true_eq] at h
  exact h
theorem rcN_nil {X : Cx} {pins : List (Addr × Obj)} {σ : St} {H : Hp} {s : Shared} (I : Inv X pins σ H s) {dx dy : PyData} {A : Around} {x y : V} {a b : Value} (hx : Dq X.K H x dx) (hy : Dq X.K H y dy) (rx : RelV x a) (ry : RelV y b) (hu : A.units + min dx.depth dy.depth < cLine) (h : nilR dx dy = true) :
    SeqAt.RcAt A s a b (PyData.eqv dx dy) ∧ SeqAt.RcNeAt A s a b (!PyData.eqv dx dy) := by
  unfold nilR at h
  split at h
  · rename_i xs
    generalize ez : PyData.tuple [] = z at hy
    cases hx with
    | tup hs hl hz _ =>
      cases rx
      obtain ⟨its, rv, ⟨o, ho, hc, n, hd⟩, _⟩ := I.tuple hs.sq
      cases hy with
      | tup ks kl kz _ =>
        cases ez
        cases ry
        obtain ⟨jts, rw, ⟨o2, ho2, hc2, n2, hd2⟩, _⟩ := I.tuple ks.sq
        have e1 : its.toArray.size = xs.length := by rw [List.size_toArray, ← rv.length, hl]
        have e2 : jts.toArray.size = 0 := by rw [List.size_toArray, ← rw.length, kl]; rfl
        have he : ∀ j (j1 : j < its.toArray.size) (j2 : j < jts.toArray.size), SeqAt.EqAt A.in1 s its.toArray[j] jts.toArray[j] (SeqAt.pairEq xs [] j) := fun j _ j2 => by rw [e2] at j2; cases j2
        show SeqAt.RcAt A s (.ref _) (.ref _) (PyData.eqvAll xs []) ∧ SeqAt.RcNeAt A s (.ref _) (.ref _) (!PyData.eqvAll xs [])
        have e3 : ([] : List PyData).length = jts.toArray.size := e2.symm
        rw [← SeqAt.eqvAll_eq xs [], e3, ← e1]
        exact ⟨SeqAt.RcAt.tuples ⟨_, ho, hc, _, hd⟩ ⟨_, ho2, hc2, _, hd2⟩ (SeqAt.room_here hu) he, SeqAt.RcNeAt.tuples ⟨_, ho, hc, _, hd⟩ ⟨_, ho2, hc2, _, hd2⟩ (SeqAt.room_here hu) he⟩
      | _ => cases ez
  · rename_i xs
    generalize ez : PyData.list [] = z at hy
    cases hx with
    | lst hs hl hz _ =>
      cases rx
      obtain ⟨_, its, n, rv, ho⟩ := rdL I hs
      cases hy with
      | lst ks kl kz _ =>
        cases ez
        cases ry
        obtain ⟨_, jts, n2, rw, ho2⟩ := rdL I ks
        have e1 : its.toArray.size = xs.length := by rw [List.size_toArray, ← rv.length, hl]
        have e2 : jts.toArray.size = 0 := by rw [List.size_toArray, ← rw.length, kl]; rfl
        show SeqAt.RcAt A s (.ref _) (.ref _) (PyData.eqvAll xs []) ∧ SeqAt.RcNeAt A s (.ref _) (.ref _) (!PyData.eqvAll xs [])
        cases xs with
        | nil =>
          have he : ∀ j (j1 : j < its.toArray.size) (j2 : j < jts.toArray.size), SeqAt.EqAt A.in1 s its.toArray[j] jts.toArray[j] (SeqAt.pairEq [] [] j) := fun j _ j2 => by rw [e2] at j2; cases j2
          have z : its.toArray.size = jts.toArray.size := by rw [e1, e2]; rfl
          rw [← SeqAt.eqvAll_same_length (show ([] : List PyData).length = ([] : List PyData).length from rfl)]
          have e3 : ([] : List PyData).length = its.toArray.size := e1.symm
          rw [e3]
          exact ⟨SeqAt.RcAt.lists ⟨_, ho, rfl, _, rfl⟩ ⟨_, ho2, rfl, _, rfl⟩ z (SeqAt.room_here hu) he, SeqAt.RcNeAt.lists ⟨_, ho, rfl, _, rfl⟩ ⟨_, ho2, rfl, _, rfl⟩ z (SeqAt.room_here hu) he⟩
        | cons x xs =>
          have z : its.toArray.size ≠ jts.toArray.size := by rw [e1, e2, List.length_cons]; omega
          rw [SeqAt.eqvAll_other_length (by simp : (x :: xs).length ≠ ([] : List PyData).length)]
          exact ⟨SeqAt.RcAt.lists_lengths ⟨_, ho, rfl, _, rfl⟩ ⟨_, ho2, rfl, _, rfl⟩ (by simpa using z) (SeqAt.room_here hu), SeqAt.RcNeAt.lists_lengths ⟨_, ho, rfl, _, rfl⟩ ⟨_, ho2, rfl, _, rfl⟩ (by simpa using z) (SeqAt.room_here hu)⟩
      | _ => cases ez
  · cases h
theorem in_ok {xs : List PyData} {d : PyData} (h : (decide (min (PyData.depthAll xs) d.depth ≤ 60) && (PyData.plainAll xs && d.plain)) = true) : min (PyData.depthAll xs) d.depth ≤ 60 ∧ PyData.plainAll xs = true ∧ d.plain = true := by
  simp only [Bool.and_eq_true, decide_eq_true_eq] at h
  exact h
theorem cmp_ok {a b : PyData} (h : cmpOk a b = true) : PySem.W.alike a b = true ∧ a ≠ .none ∧ min a.depth b.depth ≤ 60 ∧ noOb a = true ∧ noOb b = true := by
  unfold cmpOk at h
  simp only [Bool.and_eq_true] at h
  refine ⟨h.1.1.1, fun e => ?_, of_decide_eq_true h.1.2, h.2.1, h.2.2⟩
  subst e
  have := h.1.1.2
  simp at this
section
variable {ι : Type} {Xf : ι → Cx} {P : Program} {w : World} {K : PySem.W.Frag} {mg : Str → Option Value} {base : Heap} {n : Nat} [F : Fam Xf P w K mg base n]
include F
theorem op_eqG' (i : ι) : OpR (Xf i) (compareOp .Eq) (r2S K gEq) := by
  intro pins s σ H x y v u Q I rx ry h
  obtain ⟨dx, dy, d, z, hx, hy, e, hz, q⟩ := h
  rw [← F.kk i] at hx hy
  obtain ⟨hd, rfl⟩ := ite_some e
  have hu : (Xf i).A.units + min dx.depth dy.depth < cLine := by have := hu60 (F.room i) (dep_ok hd).1; omega
  rcases (dep_ok hd).2 with hp | hn
  · obtain ⟨as, r1⟩ := hx.reads I (plain_noOb _ hp.1) rx
    obtain ⟨bs, r2⟩ := hy.reads I (plain_noOb _ hp.2) ry
    exact PySem.SeqAt.eq_plain r1 r2 hp.1 hp.2 hu (boolE I hz q)
  · exact (rcN_nil I hx hy rx ry hu hn).1 _ _ _ _ (boolE I hz q)
theorem op_neG' (i : ι) : OpR (Xf i) (compareOp .NotEq) (r2S K gNe) := by
  intro pins s σ H x y v u Q I rx ry h
  obtain ⟨dx, dy, d, z, hx, hy, e, hz, q⟩ := h
  rw [← F.kk i] at hx hy
  obtain ⟨hd, rfl⟩ := ite_some e
  have hu : (Xf i).A.units + min dx.depth dy.depth < cLine := by have := hu60 (F.room i) (dep_ok hd).1; omega
  rcases (dep_ok hd).2 with hp | hn
  · obtain ⟨as, r1⟩ := hx.reads I (plain_noOb _ hp.1) rx
    obtain ⟨bs, r2⟩ := hy.reads I (plain_noOb _ hp.2) ry
    exact PySem.SeqAt.ne_plain r1 r2 hp.1 hp.2 hu (boolE I hz q)
  · exact (rcN_nil I hx hy rx ry hu hn).2 _ _ _ _ (boolE I hz q)
theorem op_ltG' (i : ι) : OpR (Xf i) (compareOp .Lt) (r2S K gLt) := by
  intro pins s σ H x y v u Q I rx ry h
  obtain ⟨dx, dy, d, z, hx, hy, e, hz, q⟩ := h
  rw [← F.kk i] at hx hy
  unfold gLt at e
  split at e
  · cases e
    obtain ⟨as, r1⟩ := hx.reads I rfl rx
    obtain ⟨bs, r2⟩ := hy.reads I rfl ry
    exact PySem.W.lt_data r1 r2 rfl (fun z => nomatch z) (by have := hu60 (F.room i) (k := 0) (by omega); simp only [PyData.depth]; omega) (by rw [PySem.W.dataLt_int]; exact boolE I hz q)
  · obtain ⟨hd, rfl⟩ := ite_some e
    obtain ⟨h1, h2, h3, h4, h5⟩ := cmp_ok hd
    obtain ⟨as, r1⟩ := hx.reads I h4 rx
    obtain ⟨bs, r2⟩ := hy.reads I h5 ry
    exact PySem.W.lt_data r1 r2 h1 h2 (by have := hu60 (F.room i) h3; omega) (boolE I hz q)
theorem op_gtG' (i : ι) : OpR (Xf i) (compareOp .Gt) (r2S K gGt) := by
  intro pins s σ H x y v u Q I rx ry h
  obtain ⟨dx, dy, d, z, hx, hy, e, hz, q⟩ := h
  rw [← F.kk i] at hx hy
  unfold gGt at e
  split at e
  · cases e
    obtain ⟨as, r1⟩ := hx.reads I rfl rx
    obtain ⟨bs, r2⟩ := hy.reads I rfl ry
    exact PySem.W.gt_data r1 r2 rfl (fun z => nomatch z) (by have := hu60 (F.room i) (k := 0) (by omega); simp only [PyData.depth]; omega) (by rw [PySem.W.dataLt_int]; exact boolE I hz q)
  · obtain ⟨hd, rfl⟩ := ite_some e
    obtain ⟨h1, h2, h3, h4, h5⟩ := cmp_ok hd
    obtain ⟨as, r1⟩ := hx.reads I h4 rx
    obtain ⟨bs, r2⟩ := hy.reads I h5 ry
    exact PySem.W.gt_data r1 r2 h1 h2 (by have := hu60 (F.room i) h3; omega) (boolE I hz q)
theorem op_leG' (i : ι) : OpR (Xf i) (compareOp .LtE) (r2S K gLe) := by
  intro pins s σ H x y v u Q I rx ry h
  obtain ⟨dx, dy, d, z, hx, hy, e, hz, q⟩ := h
  rw [← F.kk i] at hx hy
  unfold gLe at e
  split at e
  · cases e
    obtain ⟨as, r1⟩ := hx.reads I rfl rx
    obtain ⟨bs, r2⟩ := hy.reads I rfl ry
    exact PySem.W.le_data r1 r2 rfl (fun z => nomatch z) (by have := hu60 (F.room i) (k := 0) (by omega); simp only [PyData.depth]; omega) (by rw [PySem.W.dataLt_int, PySem.W.not_lt_int]; exact boolE I hz q)
  · obtain ⟨hd, rfl⟩ := ite_some e
    obtain ⟨h1, h2, h3, h4, h5⟩ := cmp_ok hd
    obtain ⟨as, r1⟩ := hx.reads I h4 rx
    obtain ⟨bs, r2⟩ := hy.reads I h5 ry
    exact PySem.W.le_data r1 r2 h1 h2 (by have := hu60 (F.room i) h3; omega) (boolE I hz q)
theorem op_geG' (i : ι) : OpR (Xf i) (compareOp .GtE) (r2S K gGe) := by
  intro pins s σ H x y v u Q I rx ry h
  obtain ⟨dx, dy, d, z, hx, hy, e, hz, q⟩ := h
  rw [← F.kk i] at hx hy
  unfold gGe at e
  split at e
  · cases e
    obtain ⟨as, r1⟩ := hx.reads I rfl rx
    obtain ⟨bs, r2⟩ := hy.reads I rfl ry
    exact PySem.W.ge_data r1 r2 rfl (fun z => nomatch z) (by have := hu60 (F.room i) (k := 0) (by omega); simp only [PyData.depth]; omega) (by rw [PySem.W.dataLt_int, PySem.W.not_lt_int]; exact boolE I hz q)
  · obtain ⟨hd, rfl⟩ := ite_some e
    obtain ⟨h1, h2, h3, h4, h5⟩ := cmp_ok hd
    obtain ⟨as, r1⟩ := hx.reads I h4 rx
    obtain ⟨bs, r2⟩ := hy.reads I h5 ry
    exact PySem.W.ge_data r1 r2 h1 h2 (by have := hu60 (F.room i) h3; omega) (boolE I hz q)
theorem op_inG' (i : ι) : OpR (Xf i) (compareOp .In) (r2S K gIn) := by
  intro pins s σ H x y v u Q I rx ry h
  obtain ⟨dx, dy, d, z, hx, hy, e, hz, q⟩ := h
  rw [← F.kk i] at hx hy
  unfold gIn at e
  split at e
  · obtain ⟨hd, rfl⟩ := ite_some e
    obtain ⟨as, r1⟩ := hx.reads I (plain_noOb _ (in_ok hd).2.2) rx
    obtain ⟨bs, r2⟩ := hy.reads I (plainAll_noOb _ (in_ok hd).2.1) ry
    exact PySem.SeqAt.in_list_data r2 r1 (in_ok hd).2.1 (in_ok hd).2.2 (hu60 (F.room i) (in_ok hd).1) (boolE I hz q)
  · obtain ⟨hd, rfl⟩ := ite_some e
    obtain ⟨as, r1⟩ := hx.reads I (plain_noOb _ (in_ok hd).2.2) rx
    obtain ⟨bs, r2⟩ := hy.reads I (plainAll_noOb _ (in_ok hd).2.1) ry
    exact PySem.SeqAt.in_tuple_data r2 r1 (in_ok hd).2.1 (in_ok hd).2.2 (hu60 (F.room i) (in_ok hd).1) (boolE I hz q)
  · cases e
omit F in
theorem isTD_ok {G : Hp} {x y : V} {v u : Value} {dx dy : PyData} {b : Bool} (hx : Dq K G x dx) (hy : Dq K G y dy) (rx : RelV x v) (ry : RelV y u) (e : isTD dx dy = some b) : plainIs v u = true ∧ (v == u) = b := by
  cases hy with
  | non =>
    cases ry
    cases hx <;> (first | (cases rx; cases e; exact ⟨rfl, by simp⟩) | (obtain ⟨t, rfl⟩ := rx; cases e; exact ⟨rfl, by simp⟩) | (simp only [isTD] at e; cases e; cases rx; exact ⟨rfl, rfl⟩) | (simp only [isTD, obD] at e; cases e; cases rx; exact ⟨rfl, by simp⟩))
  | bl c =>
    cases ry
    cases hx <;> (first | (obtain ⟨t, rfl⟩ := rx; cases e; exact ⟨rfl, by simp⟩) | (cases rx; cases e; exact ⟨rfl, by simp⟩) | (rename_i b'; cases rx; cases e; cases b' <;> cases c <;> exact ⟨rfl, rfl⟩))
  | _ => cases hx <;> simp [isTD, obD] at e
theorem op_isG' (i : ι) : OpR (Xf i) (compareOp .Is) (r2S K gIs) := by
  intro pins s σ H x y v u Q I rx ry h
  obtain ⟨dx, dy, d, z, hx, hy, e, hz, q⟩ := h
  obtain ⟨b, e1, rfl⟩ := Option.map_eq_some_iff.mp e
  obtain ⟨h1, h2⟩ := isTD_ok hx hy rx ry e1
  exact wpAny_is_plain h1 (by rw [h2]; exact boolE I hz q)
theorem opEq : Op2 Xf K (compareOp .Eq) .s gEq := ⟨_, op_eqG', d2S fun a b d e => by obtain ⟨_, rfl⟩ := ite_some e; exact ⟨_, rfl⟩⟩
theorem opNe : Op2 Xf K (compareOp .NotEq) .s gNe := ⟨_, op_neG', d2S fun a b d e => by obtain ⟨_, rfl⟩ := ite_some e; exact ⟨_, rfl⟩⟩
theorem opLt : Op2 Xf K (compareOp .Lt) .s gLt := ⟨_, op_ltG', d2S fun a b d e => by
  unfold gLt at e; split at e
  · cases e; exact ⟨_, rfl⟩
  · obtain ⟨_, rfl⟩ := ite_some e; exact ⟨_, rfl⟩⟩
theorem opGt : Op2 Xf K (compareOp .Gt) .s gGt := ⟨_, op_gtG', d2S fun a b d e => by
  unfold gGt at e; split at e
  · cases e; exact ⟨_, rfl⟩
  · obtain ⟨_, rfl⟩ := ite_some e; exact ⟨_, rfl⟩⟩
theorem opLe : Op2 Xf K (compareOp .LtE) .s gLe := ⟨_, op_leG', d2S fun a b d e => by
  unfold gLe at e; split at e
  · cases e; exact ⟨_, rfl⟩
  · obtain ⟨_, rfl⟩ := ite_some e; exact ⟨_, rfl⟩⟩
theorem opGe : Op2 Xf K (compareOp .GtE) .s gGe := ⟨_, op_geG', d2S fun a b d e => by
  unfold gGe at e; split at e
  · cases e; exact ⟨_, rfl⟩
  · obtain ⟨_, rfl⟩ := ite_some e; exact ⟨_, rfl⟩⟩
theorem opIs : Op2 Xf K (compareOp .Is) .s gIs := ⟨_, op_isG', d2S fun a b d e => by
  obtain ⟨k, _, rfl⟩ := Option.map_eq_some_iff.mp e; exact ⟨_, rfl⟩⟩
theorem opIn : Op2 Xf K (compareOp .In) .s gIn := ⟨_, op_inG', d2S fun a b d e => by
  unfold gIn at e; split at e
  · obtain ⟨_, rfl⟩ := ite_some e; exact ⟨_, rfl⟩
  · obtain ⟨_, rfl⟩ := ite_some e; exact ⟨_, rfl⟩
  · cases e⟩
end
end DL
namespace DL
open PySem L2 PySem.Spec
def rCatR : R2 := fun x y H Q => ∃ l b xs zs, x = .ref l ∧ y = .ref b ∧ Rd H l (.lst xs) ∧ Rd H b (.lst zs) ∧ xs.length + zs.length ≤ sizeLine ∧ ∀ p, H p = none → Q (.ref p) (upd H p (.lst (xs ++ zs)))
theorem op_catR {X : Cx} : OpR X (binaryOp .Add) rCatR := by
  intro pins s σ H x y v u Q I rx ry h
  obtain ⟨l, b, xs, zs, rfl, rfl, hH, hB, hz, q⟩ := h
  cases rx
  cases ry
  obtain ⟨z, its, n, r, e⟩ := rdL I hH
  obtain ⟨z2, its2, n2, r2, e2⟩ := rdL I hB
  have hl := r.length
  have hl2 := r2.length
  refine PySem.P.add_list e e2 ?_ (by rw [List.size_toArray, List.size_toArray]; omega)
  have ea : its.toArray ++ its2.toArray = (its ++ its2).toArray := by simp
  rw [ea]
  exact ⟨.ref _, _, I.lnew (t' := s.toks) (r.append r2) (by rw [List.length_append]; omega), rfl, q _ I.fresh⟩
def rRepR : R2 := fun x y H Q => ∃ l k xs, x = .ref l ∧ y = .int k ∧ Rd H l (.lst xs) ∧ -(2 ^ 63) ≤ k ∧ k < 2 ^ 63 ∧ xs.length * k.toNat ≤ sizeLine ∧
  ∀ p, H p = none → Q (.ref p) (upd H p (.lst (List.replicate k.toNat xs).flatten))
theorem op_repR {X : Cx} : OpR X (binaryOp .Mult) rRepR := by
  intro pins s σ H x y v u Q I rx ry h
  obtain ⟨l, k, xs, rfl, rfl, hH, h1, h2, hz, q⟩ := h
  cases rx
  obtain ⟨t, rfl⟩ := ry
  obtain ⟨z, its, n, r, e⟩ := rdL I hH
  have hl := r.length
  have hlen : its.toArray.size * k.toNat ≤ sizeLine := by rw [List.size_toArray, ← hl]; exact hz
  have hcap : ¬ its.toArray.size * k.toNat > (2 ^ 63 - 1) / 8 := by
    have : (sizeLine : Nat) ≤ (2 ^ 63 - 1) / 8 := by decide
    omega
  have hfit : ¬ (!Builtin.List.listFitsIndex k) = true := by
    rw [fitsIndex_both h1 h2]
    exact Bool.false_ne_true
  have hlong : ¬ Builtin.List.listTooLong (its.toArray.size * k.toNat) = true := by
    rw [notLongL hlen]
    exact Bool.false_ne_true
  have hnew : List.foldl (fun x1 x2 => x1 ++ x2) #[] (List.replicate (if its.toArray.isEmpty = true then 0 else k.toNat) its.toArray) = (List.replicate k.toNat its).flatten.toArray := by
    have f0 : ∀ m : Nat, List.foldl (fun x1 x2 => x1 ++ x2) #[] (List.replicate m its.toArray) = (List.replicate m its).flatten.toArray := fun m => by
      have := foldl_rep its m []
      rw [List.nil_append] at this
      exact this
    rw [f0]
    cases its with
    | nil => simp
    | cons a r' => simp
  refine wpAny_binaryOp_repeat_ref (T := "list") (U := "int") (by decide) ⟨_, e, rfl⟩ (fun s' => typeIs_int s' k t) noFill_list_mul F.fills_int_mul F.slot_int_rmul repeat_list F.slot_int_index.lookup
    (call_meets F.slot_int_rmul (typeIs_int s k t) F.entry_int_rmul (F.args_int_rmul_2 _ _) (int___rmul___int_list k t l its.toArray n)
      ⟨e, rfl, ⟨_, e, rfl⟩, call_meets F.slot_list_mul ⟨_, e, rfl⟩ F.entry_list_mul (F.args_list_mul_2 _ _) (AutoListH.list___mul___list_int_3 l its.toArray n k t hfit hcap hlong) ⟨e, ?_⟩⟩)
  rw [hnew]
  exact ⟨.ref _, _, I.lnew (t' := s.toks) (r.rep k.toNat) (by rw [PyProof.Rows.lm_len_rep_flat, Nat.mul_comm]; exact hz), rfl, q _ I.fresh⟩
def bI (b : Bool) : Int := if b = true then 1 else 0
theorem gv_addB (b : Bool) (j : Int) (t : Tok) : Gives (Builtin.«int.__add__» ⟨[.bool b, .int j t], []⟩) (.int (bI b + j)) :=
  .of_wp fun M A E s Q h => by
    obtain ⟨hp, g, d, tk, os⟩ := s
    wp_walk
    exact ⟨_, rfl, h⟩
theorem gv_subB (b : Bool) (j : Int) (t : Tok) : Gives (Builtin.«int.__sub__» ⟨[.bool b, .int j t], []⟩) (.int (bI b - j)) :=
  .of_wp fun M A E s Q h => by
    obtain ⟨hp, g, d, tk, os⟩ := s
    wp_walk
    exact ⟨_, rfl, h⟩
def rBI (g : Int → Int → Int) : R2 := fun x y H Q => ∃ b j, x = .bl b ∧ y = .int j ∧ Q (.int (g (bI b) j)) H
theorem op_addBI {X : Cx} : OpR X (binaryOp .Add) (rBI fun i j => i + j) := by
  intro pins s σ H x y v u Q I rx ry h
  obtain ⟨b, j, rfl, rfl, q⟩ := h
  cases rx
  obtain ⟨t, rfl⟩ := ry
  exact binaryOp_left_gives (op := .Add) (T := "bool") (U := "int") (by decide) rfl (fun s' => typeIs_int s' j t) F.fills_bool_add F.fills_int_add F.sub_int_bool F.slot_bool_add F.slot_int_radd F.entry_int_add (F.args_int_add_2 _ _) (gv_addB b j t) trivial
    ⟨.int (bI b + j), H, I.tok _, ⟨_, rfl⟩, q⟩
theorem op_subBI {X : Cx} : OpR X (binaryOp .Sub) (rBI fun i j => i - j) := by
  intro pins s σ H x y v u Q I rx ry h
  obtain ⟨b, j, rfl, rfl, q⟩ := h
  cases rx
  obtain ⟨t, rfl⟩ := ry
  exact binaryOp_left_gives (op := .Sub) (T := "bool") (U := "int") (by decide) rfl (fun s' => typeIs_int s' j t) F.fills_bool_sub F.fills_int_sub F.sub_int_bool F.slot_bool_sub F.slot_int_rsub F.entry_int_sub (F.args_int_sub_2 _ _) (gv_subB b j t) trivial
    ⟨.int (bI b - j), H, I.tok _, ⟨_, rfl⟩, q⟩
def gAdd : PyData → PyData → Option PyData
  | .int i, .int j => some (.int (i + j))
  | .bool b, .int j => some (.int (bI b + j))
  | .str i, .str j => if i.length + j.length ≤ sizeLine then some (.str (i ++ j)) else none
  | .tuple a, .tuple b => if a.length + b.length ≤ sizeLine then some (.tuple (a ++ b)) else none
  | .list a, .list b => if a.length + b.length ≤ sizeLine then some (.list (a ++ b)) else none
  | _, _ => none
def gAddL : PyData → PyData → Option PyData
  | .list a, .list b => if a.length + b.length ≤ sizeLine then some (.list (a ++ b)) else none
  | _, _ => none
def gSub : PyData → PyData → Option PyData
  | .int i, .int j => some (.int (i - j))
  | .bool b, .int j => some (.int (bI b - j))
  | _, _ => none
def mulOk (i j : Int) : Bool := decide (i.natAbs < 2 ^ 64) || decide (j.natAbs < 2 ^ 64)
def gMul : PyData → PyData → Option PyData
  | .int i, .int j => if mulOk i j = true then some (.int (i * j)) else none
  | .list xs, .int k => if -(2 ^ 63) ≤ k ∧ k < 2 ^ 63 ∧ xs.length * k.toNat ≤ sizeLine then some (.list (List.replicate k.toNat xs).flatten) else none
  | .tuple xs, .int k => if -1000 ≤ k ∧ k ≤ 1000 ∧ xs.length ≤ 1000 then some (.tuple (List.replicate k.toNat xs).flatten) else none
  | _, _ => none
def gMulL : PyData → PyData → Option PyData
  | .list xs, .int k => if -(2 ^ 63) ≤ k ∧ k < 2 ^ 63 ∧ xs.length * k.toNat ≤ sizeLine then some (.list (List.replicate k.toNat xs).flatten) else none
  | _, _ => none
def gFdiv : PyData → PyData → Option PyData
  | .int i, .int j => if 0 < j ∧ j.natAbs.log2 < 9000 then some (.int (i / j)) else none
  | _, _ => none
def gMod : PyData → PyData → Option PyData
  | .int i, .int j => if 0 < j then some (.int (i % j)) else none
  | _, _ => none
def gPow : PyData → PyData → Option PyData
  | .int i, .int j => if 0 ≤ j ∧ j ≤ 1000000 ∧ i.natAbs < 2 ^ 64 then some (.int (i ^ j.toNat)) else none
  | _, _ => none
def gNeg : PyData → Option PyData
  | .int i => some (.int (-i))
  | _ => none
section
variable {K : PySem.W.Frag} {G H : Hp} {m : List Ty} {σ : St} {e : En} {A : List Addr} {d : PyData} {Q : VK}
theorem dq_lst {G : Hp} {x : V} {ds : List PyData} (h : Dq K G x (.list ds)) : ∃ a xs, x = .ref a ∧ Rd G a (.lst xs) ∧ xs.length ≤ sizeLine ∧ DqA K G xs ds := by
  cases h with
  | lst h1 h2 h3 h4 => exact ⟨_, _, rfl, h1, h3, h2, h4⟩
theorem dq_tup {G : Hp} {x : V} {ds : List PyData} (h : Dq K G x (.tuple ds)) : ∃ a xs, x = .ref a ∧ SqT K G a xs ∧ xs.length ≤ sizeLine ∧ DqA K G xs ds := by
  cases h with
  | tup h1 h2 h3 h4 => exact ⟨_, _, rfl, h1.sq, h3, h2, h4⟩
theorem dq_int {G : Hp} {x : V} {i : Int} (h : Dq K G x (.int i)) : x = .int i := by cases h; rfl
theorem dq_bool {G : Hp} {x : V} {i : Bool} (h : Dq K G x (.bool i)) : x = .bl i := by cases h; rfl
theorem dq_str {G : Hp} {x : V} {i : Str} (h : Dq K G x (.str i)) : x = .str i ∧ i.length ≤ sizeLine := by cases h; exact ⟨rfl, by assumption⟩
theorem DqA.flat {G : Hp} {xs : List V} {ds : List PyData} (h : DqA K G xs ds) : ∀ k : Nat, DqA K G (List.replicate k xs).flatten (List.replicate k ds).flatten
  | 0 => DqA.nil
  | k + 1 => by rw [List.replicate_succ, List.replicate_succ, List.flatten_cons, List.flatten_cons]; exact h.append (DqA.flat h k)
theorem kfrz {ty : Ty} (hn : nou ty = true) (k : ∀ (G' H' : Hp) (v : V) (Av A' : List Addr), Step A G H (Av ++ A') G' H' → Stt K m G' H' σ e A' → Own K G' H' .s d (some v) Av → (Av ++ A').Nodup → Q v H') :
    ∀ (G' H' : Hp) (v : V) (Av A' : List Addr), Step A G H (Av ++ A') G' H' → Stt K m G' H' σ e A' → Own K G' H' ty d (some v) Av → (Av ++ A').Nodup → Q v H' := fun G1 H1 v1 A1 B1 s1 st1 o1 nd1 => by
  obtain ⟨s2, st2, sg, hl⟩ := frz st1 (own_at o1) nd1
  obtain ⟨x, hx, q⟩ := own_frz o1 sg hl hn
  cases hx
  have s0 : Step A G H ([] ++ B1) (lay G1 H1 A1) H1 := s1.seq0 s2
  exact k _ _ v1 [] B1 s0 st2 (.s q) st2.nd
theorem d2_catL : D2 K rCatR (.l .s) gAddL := fun {m G H σ e A x y dx dy d Q} st hx hy ee k => by
  unfold gAddL at ee
  split at ee
  · obtain ⟨hz, rfl⟩ := ite_some ee
    obtain ⟨a, xs, rfl, r1, z1, q1⟩ := dq_lst hx
    obtain ⟨b, ys, rfl, r2, z2, q2⟩ := dq_lst hy
    have l1 := q1.1
    have l2 := q2.1
    exact ⟨a, b, xs, ys, rfl, rfl, same_rd st.sub r1, same_rd st.sub r2, by omega, ans_lst st (q1.append q2) (by rw [List.length_append]; omega) k⟩
  · cases ee
theorem d2_repL : D2 K rRepR (.l .s) gMulL := fun {m G H σ e A x y dx dy d Q} st hx hy ee k => by
  unfold gMulL at ee
  split at ee
  · obtain ⟨hz, rfl⟩ := ite_some ee
    obtain ⟨a, xs, rfl, r1, z1, q1⟩ := dq_lst hx
    obtain rfl := dq_int hy
    have l1 := q1.1
    exact ⟨a, _, xs, rfl, rfl, same_rd st.sub r1, hz.1, hz.2.1, by rw [l1]; exact hz.2.2, ans_lst st (q1.flat _) (by rw [PyProof.Rows.lm_len_rep_flat, l1, Nat.mul_comm]; exact hz.2.2) k⟩
  · cases ee
end
section
variable {ι : Type} {Xf : ι → Cx} {P : Program} {w : World} {K : PySem.W.Frag} {mg : Str → Option Value} {base : Heap} {n : Nat} [F : Fam Xf P w K mg base n]
include F
theorem kkR {r : PySem.W.Frag → R2} {f : Value → Value → Sem Value} (h : ∀ X : Cx, OpR X f (r X.K)) (i : ι) : OpR (Xf i) f (r K) := by
  have := h (Xf i)
  rw [F.kk i] at this
  exact this
theorem opAdd : Op2 Xf K (binaryOp .Add) .s gAdd := by
  refine ⟨_, fun i => OpR.or op_addBI (OpR.or (op_add) (OpR.or op_add_str (OpR.or (kkR (fun X => op_catN) i) op_catR))), fun {m G H σ e A x y dx dy d Q} st hx hy ee k => ?_⟩
  unfold gAdd at ee
  split at ee
  · cases ee
    obtain rfl := dq_int hx
    obtain rfl := dq_int hy
    exact .inr (.inl ⟨_, _, rfl, rfl, ans_s st (.int _) k⟩)
  · cases ee
    obtain rfl := dq_bool hx
    obtain rfl := dq_int hy
    exact .inl ⟨_, _, rfl, rfl, ans_s st (.int _) k⟩
  · obtain ⟨hz, rfl⟩ := ite_some ee
    obtain ⟨rfl, z1⟩ := dq_str hx
    obtain ⟨rfl, z2⟩ := dq_str hy
    refine .inr (.inr (.inl ⟨_, _, rfl, rfl, hz, ans_s st (.str _ ?_) k⟩))
    rename_i i j
    show (i.cps ++ j.cps).size ≤ _
    rw [Array.size_append]; exact hz
  · obtain ⟨hz, rfl⟩ := ite_some ee
    obtain ⟨a, xs, rfl, r1, z1, q1⟩ := dq_tup hx
    obtain ⟨b, ys, rfl, r2, z2, q2⟩ := dq_tup hy
    have l1 := q1.1
    have l2 := q2.1
    refine .inr (.inr (.inr (.inl ⟨a, b, xs, ys, rfl, rfl, same_seqT st.sub r1, same_seqT st.sub r2, by omega, fun h0 => ?_, fun h0 h1 => ?_, fun _ _ => ans_tup st (q1.append q2) (by rw [List.length_append]; omega) k⟩)))
    · subst h0
      have : (_ : List PyData) = [] := List.length_eq_zero_iff.mp l1.symm
      subst this
      exact ans_s st hy k
    · subst h1
      have : (_ : List PyData) = [] := List.length_eq_zero_iff.mp l2.symm
      subst this
      rw [List.append_nil] at k
      exact ans_s st hx k
  · exact .inr (.inr (.inr (.inr (d2_catL st hx hy ee (kfrz rfl k)))))
  · cases ee
theorem opAddL : Op2 Xf K (binaryOp .Add) (.l .s) gAddL := ⟨_, fun i => op_catR, d2_catL⟩
theorem opSub : Op2 Xf K (binaryOp .Sub) .s gSub := ⟨_, fun i => OpR.or op_subBI op_sub, fun {m G H σ e A x y dx dy d Q} st hx hy ee k => by
  unfold gSub at ee
  split at ee
  · cases ee
    obtain rfl := dq_int hx
    obtain rfl := dq_int hy
    exact .inr ⟨_, _, rfl, rfl, ans_s st (.int _) k⟩
  · cases ee
    obtain rfl := dq_bool hx
    obtain rfl := dq_int hy
    exact .inl ⟨_, _, rfl, rfl, ans_s st (.int _) k⟩
  · cases ee⟩
omit F in
theorem mul_same (l : Addr) (its : Array Value) (n : Nat) (dc : Option Addr) (sl : Array (Option Value)) (x : Int) (u : Tok) (k0 : (decide (x < -(2 ^ 63)) || decide (x ≥ 2 ^ 63)) = false) (k1 : (its.isEmpty || x == 1) = true) :
    Meets (Builtin.«tuple.__mul__» ⟨[.ref l, .int x u], []⟩) (fun _ R s => s.heap.get? l = some { cls := .type "tuple", dict := dc, data := .seq its n, slots := sl } ∧ R (.ok (.ret (Value.ref l))) s) :=
  .of_wp fun prog w A R s h => by
    obtain ⟨hp, gg, dr, tk, os⟩ := s
    obtain ⟨at1, h⟩ := h
    have ix := AutoSeq1.idx_int
    wp_walk using wpAny_loadPart' at1
    repeat (first
      | (refine wpAny_ite_false (decide_eq_false (by rw [k0]; exact Bool.false_ne_true)) ?_; wp_walk using wpAny_loadPart' at1)
      | (refine wpAny_ite_true (decide_eq_true k1) ?_; wp_walk using wpAny_loadPart' at1))
    exact ⟨_, rfl, h⟩
omit F in
theorem mul_none (l : Addr) (its : Array Value) (n : Nat) (dc : Option Addr) (sl : Array (Option Value)) (x : Int) (u : Tok) (k0 : (decide (x < -(2 ^ 63)) || decide (x ≥ 2 ^ 63)) = false) (k1 : (its.isEmpty || x == 1) = false) (k2 : (decide (x ≤ 0) || its.isEmpty) = true) :
    Meets (Builtin.«tuple.__mul__» ⟨[.ref l, .int x u], []⟩) (fun _ R s => s.heap.get? l = some { cls := .type "tuple", dict := dc, data := .seq its n, slots := sl } ∧
      R (.ok (.ret (Value.ref s.heap.objs.size))) { s with heap := s.heap.push { cls := Value.type "tuple", data := Data.seq #[] }, toks := s.toks }) :=
  .of_wp fun prog w A R s h => by
    obtain ⟨hp, gg, dr, tk, os⟩ := s
    obtain ⟨at1, h⟩ := h
    have ix := AutoSeq1.idx_int
    wp_walk using wpAny_loadPart' at1
    repeat (first
      | (refine wpAny_ite_false (decide_eq_false (by rw [k0]; exact Bool.false_ne_true)) ?_; wp_walk using wpAny_loadPart' at1)
      | (refine wpAny_ite_false (decide_eq_false (by rw [k1]; exact Bool.false_ne_true)) ?_; wp_walk using wpAny_loadPart' at1)
      | (refine wpAny_ite_true (decide_eq_true k2) ?_; wp_walk using wpAny_loadPart' at1))
    exact ⟨_, rfl, h⟩
def rMulE (K : PySem.W.Frag) : R2 := fun x y H Q => ∃ l k xs, x = .ref l ∧ y = .int k ∧ SqT K H l xs ∧ -1000 ≤ k ∧ k ≤ 1000 ∧ (((xs = [] ∨ k = 1) ∧ Q (.ref l) H) ∨ (xs ≠ [] ∧ k ≤ 0 ∧ NewT H [] Q))
omit F in
theorem op_mulE {X : Cx} : OpR X (binaryOp .Mult) (rMulE X.K) := by
  intro pins s σ H x y v u Q I rx ry h
  obtain ⟨l, k, xs, rfl, rfl, hT, b1, b2, h⟩ := h
  cases rx
  obtain ⟨t, rfl⟩ := ry
  obtain ⟨its, r, ⟨⟨cls, dc, data, sl⟩, ho, hc, n, hd⟩, _⟩ := I.tuple hT
  simp only at hc hd
  subst hc hd
  have le : its.length = xs.length := r.length.symm
  have k0 : (decide (k < -(2 ^ 63)) || decide (k ≥ 2 ^ 63)) = false := by
    rw [decide_eq_false (by omega), decide_eq_false (by omega)]; rfl
  rcases h with ⟨hx, q⟩ | ⟨hx, hk, q⟩
  · have k1 : (its.toArray.isEmpty || k == 1) = true := by
      rcases hx with hx | hx
      · subst hx
        obtain rfl : its = [] := List.eq_nil_of_length_eq_zero le
        rfl
      · subst hx; exact Bool.or_true _
    exact wpAny_binaryOp_repeat_ref (T := "tuple") (U := "int") (by decide) ⟨_, ho, rfl⟩ (fun s' => typeIs_int s' k t) noFill_tuple_mul F.fills_int_mul F.slot_int_rmul repeat_tuple F.slot_int_index.lookup
      (call_meets F.slot_int_rmul (typeIs_int s k t) F.entry_int_rmul (F.args_int_rmul_2 _ _) (int_rmul_tuple k t l its.toArray n dc sl)
        ⟨ho, rfl, ⟨_, ho, rfl⟩, call_meets F.slot_tuple_mul ⟨_, ho, rfl⟩ F.entry_tuple_mul (F.args_tuple_mul_2 _ _) (mul_same l its.toArray n dc sl k t k0 k1) ⟨ho, ⟨.ref l, H, I, rfl, q⟩⟩⟩)
  · have ne : its.toArray.isEmpty = false := by
      cases its with
      | nil => exact absurd (List.eq_nil_of_length_eq_zero le.symm) hx
      | cons a b => rfl
    have k1 : (its.toArray.isEmpty || k == 1) = false := by
      rw [ne, Bool.false_or]
      exact beq_eq_false_iff_ne.mpr (by omega)
    have k2 : (decide (k ≤ 0) || its.toArray.isEmpty) = true := by rw [decide_eq_true hk]; rfl
    refine wpAny_binaryOp_repeat_ref (T := "tuple") (U := "int") (by decide) ⟨_, ho, rfl⟩ (fun s' => typeIs_int s' k t) noFill_tuple_mul F.fills_int_mul F.slot_int_rmul repeat_tuple F.slot_int_index.lookup
      (call_meets F.slot_int_rmul (typeIs_int s k t) F.entry_int_rmul (F.args_int_rmul_2 _ _) (int_rmul_tuple k t l its.toArray n dc sl)
        ⟨ho, rfl, ⟨_, ho, rfl⟩, call_meets F.slot_tuple_mul ⟨_, ho, rfl⟩ F.entry_tuple_mul (F.args_tuple_mul_2 _ _) (mul_none l its.toArray n dc sl k t k0 k1 k2) ⟨ho, ?_⟩⟩)
    exact newT_ep (its := []) I .nil (Nat.zero_le _) q
theorem opMul : Op2 Xf K (binaryOp .Mult) .s gMul := by
  refine ⟨_, fun i => OpR.or op_mul (OpR.or op_repR (OpR.or (kkR (fun X => op_repN) i) (kkR (fun X => op_mulE) i))), fun {m G H σ e A x y dx dy d Q} st hx hy ee k => ?_⟩
  unfold gMul at ee
  split at ee
  · obtain ⟨hz, rfl⟩ := ite_some ee
    obtain rfl := dq_int hx
    obtain rfl := dq_int hy
    refine .inl ⟨_, _, rfl, rfl, ?_, ans_s st (.int _) k⟩
    unfold mulOk at hz
    rcases (Bool.or_eq_true _ _).mp hz with h | h
    · have := of_decide_eq_true h; exact .inl (by omega)
    · have := of_decide_eq_true h; exact .inr (by omega)
  · exact .inr (.inl (d2_repL st hx hy ee (kfrz rfl k)))
  · rename_i kk
    obtain ⟨hz, rfl⟩ := ite_some ee
    obtain ⟨a, xs, rfl, r1, z1, q1⟩ := dq_tup hx
    obtain rfl := dq_int hy
    have l1 := q1.1
    have hz2 : (List.replicate kk.toNat xs).flatten.length ≤ sizeLine := by
      rw [PyProof.Rows.lm_len_rep_flat, l1]
      have h1 : kk.toNat ≤ 1000 := Int.toNat_le.mpr hz.2.1
      exact Nat.le_trans (Nat.mul_le_mul h1 hz.2.2) (by decide)
    have e0 : xs = [] → ∀ ds' : List PyData, ds'.length = xs.length → (List.replicate kk.toNat ds').flatten = ds' := fun h ds' hl => by
      subst h
      obtain rfl := List.eq_nil_of_length_eq_zero hl
      induction kk.toNat with
      | zero => rfl
      | succ n ih => rw [List.replicate_succ, List.flatten_cons, ih]; rfl
    by_cases h0 : xs = []
    · refine .inr (.inr (.inr ⟨a, _, xs, rfl, rfl, same_seqT st.sub r1, hz.1, hz.2.1, .inl ⟨.inl h0, ?_⟩⟩))
      rw [e0 h0 _ l1.symm] at k
      exact ans_s st hx k
    · by_cases h1 : kk = 1
      · subst h1
        refine .inr (.inr (.inr ⟨a, _, xs, rfl, rfl, same_seqT st.sub r1, hz.1, hz.2.1, .inl ⟨.inr rfl, ?_⟩⟩))
        rw [show (1 : Int).toNat = 1 from rfl, List.replicate_one, List.flatten_singleton] at k
        exact ans_s st hx k
      · by_cases h2 : kk ≤ 0
        · refine .inr (.inr (.inr ⟨a, _, xs, rfl, rfl, same_seqT st.sub r1, hz.1, hz.2.1, .inr ⟨h0, h2, ?_⟩⟩))
          rw [Int.toNat_of_nonpos h2, List.replicate_zero, List.flatten_nil] at k
          exact ans_tup st DqA.nil (Nat.zero_le _) k
        · exact .inr (.inr (.inl ⟨a, _, xs, rfl, rfl, same_seqT st.sub r1, h0, by omega, hz.2.1, by omega, ans_tup st (q1.flat _) hz2 k⟩))
  · cases ee
theorem opFdiv : Op2 Xf K (binaryOp .FloorDiv) .s gFdiv := ⟨_, fun i => op_fdivW, fun {m G H σ e A x y dx dy d Q} st hx hy ee k => by
  unfold gFdiv at ee
  split at ee
  · obtain ⟨hz, rfl⟩ := ite_some ee
    obtain rfl := dq_int hx
    obtain rfl := dq_int hy
    exact ⟨_, _, rfl, rfl, hz, ans_s st (.int _) k⟩
  · cases ee⟩
theorem opMod : Op2 Xf K (binaryOp .Mod) .s gMod := ⟨_, fun i => op_mod, fun {m G H σ e A x y dx dy d Q} st hx hy ee k => by
  unfold gMod at ee
  split at ee
  · obtain ⟨hz, rfl⟩ := ite_some ee
    obtain rfl := dq_int hx
    obtain rfl := dq_int hy
    exact ⟨_, _, rfl, rfl, hz, ans_s st (.int _) k⟩
  · cases ee⟩
theorem opPow : Op2 Xf K (binaryOp .Pow) .s gPow := ⟨_, fun i => op_pow, fun {m G H σ e A x y dx dy d Q} st hx hy ee k => by
  unfold gPow at ee
  split at ee
  · obtain ⟨hz, rfl⟩ := ite_some ee
    obtain rfl := dq_int hx
    obtain rfl := dq_int hy
    exact ⟨_, _, rfl, rfl, hz, ans_s st (.int _) k⟩
  · cases ee⟩
theorem pd_neg {m m1 : List Ty} {pos : Pos} {a : Expr} {f : Ef} (ha : PD Xf K m a .s f m1) : PD Xf K m (.UnaryOp .USub a pos) .s (e1 gNeg f) m1 := by
  obtain ⟨ta, pa, da⟩ := ha.ex
  refine ⟨_, fun i => pe_un un_neg (pa i), DE.un da fun {m G H σ e A x dx d Q} st hx ee k => ?_⟩
  unfold gNeg at ee
  split at ee
  · cases ee
    obtain rfl := dq_int hx
    exact ⟨_, rfl, ans_s st (.int _) k⟩
  · cases ee
end
def gIx : PyData → PyData → Option PyData
  | .list xs, .int i => atI xs i
  | .tuple xs, .int i => atI xs i
  | .str z, .int i => (atI z.cps.toList i).map fun c => .str ⟨#[c]⟩
  | _, _ => none
def cutD (ds : List PyData) (lo hi : Option Int) : List PyData := (ds.drop (HT.sIx ds.length 0 lo)).take (HT.sIx ds.length ds.length hi - HT.sIx ds.length 0 lo)
def prt : PyData → Option (Option Int)
  | .int i => some (some i)
  | _ => none
def gSl (x : PyData) (lo hi : Option Int) : Option PyData :=
  match x with
  | .list xs => some (.list (cutD xs lo hi))
  | .tuple xs => some (.tuple (cutD xs lo hi))
  | .str z => some (.str (cutS z lo hi))
  | _ => none
def gSlL (x : PyData) (lo hi : Option Int) : Option PyData :=
  match x with
  | .list xs => some (.list (cutD xs lo hi))
  | _ => none
theorem atI_dq {K : PySem.W.Frag} {G : Hp} {xs : List V} {ds : List PyData} (q : DqA K G xs ds) {i : Int} {d : PyData} (h : atI ds i = some d) : ∃ v, atI xs i = some v ∧ Dq K G v d := by
  unfold atI at h ⊢
  obtain ⟨j, hj, hd⟩ := oBs h
  obtain ⟨v, hv, qv⟩ := q.get hd
  exact ⟨v, by rw [q.1, hj]; exact hv, qv⟩
theorem cut_dq {K : PySem.W.Frag} {G : Hp} {xs : List V} {ds : List PyData} (q : DqA K G xs ds) (lo hi : Option Int) : DqA K G (cutV xs lo hi) (cutD ds lo hi) := by
  unfold cutV cutD
  rw [q.1]
  have hdrop : ∀ k : Nat, DqA K G (xs.drop k) (ds.drop k) := fun k => ⟨by simp [q.1], fun i v d a b => q.2 (k + i) v d (by simpa using a) (by simpa using b)⟩
  have htake : ∀ (k : Nat) (xs : List V) (ds : List PyData), DqA K G xs ds → DqA K G (xs.take k) (ds.take k) := fun k xs ds q => ⟨by simp [q.1], fun i v d a b => by
    rw [List.getElem?_take] at a b
    split at a
    · rename_i hi; rw [if_pos hi] at b; exact q.2 i v d a b
    · cases a⟩
  exact htake _ _ _ (hdrop _)
theorem cutD_all {ds : List PyData} {lo hi : Option Int} (h : HT.sIx ds.length 0 lo = 0 ∧ HT.sIx ds.length ds.length hi = ds.length) : cutD ds lo hi = ds := by
  unfold cutD
  rw [h.1, h.2]
  simp
theorem cutS_len (z : Str) (lo hi : Option Int) : (cutS z lo hi).length ≤ z.length := by
  unfold cutS
  show ((z.cps.toList.drop _).take _).toArray.size ≤ z.cps.size
  rw [List.size_toArray, List.length_take, List.length_drop, Array.length_toList]
  omega
abbrev Of := En → Option (Option Int × En)
def oNone : Of := fun e => some (none, e)
def oSome (f : Ef) : Of := fun e => (f e).bind fun p => (prt p.1).bind fun i => some (i, p.2)
def DO (K : PySem.W.Frag) (m : List Ty) (t : TO) (f : Of) (m' : List Ty) : Prop :=
  ∀ {G H : Hp} {σ : St} {e : En} {A : List Addr} {o : Option Int} {e' : En} {Q : Option Int → Hp → Prop}, Stt K m G H σ e A → f e = some (o, e') →
    (∀ (G' H' : Hp) (A' : List Addr), Step A G H A' G' H' → Stt K m' G' H' σ e' A' → Q o H') → t σ H Q
structure PP {ι : Type} (Xf : ι → Cx) (K : PySem.W.Frag) (m : List Ty) (e : Option Expr) (f : Of) (m' : List Ty) : Prop where
  ex : ∃ t : TO, (∀ i, PO (Xf i) e t) ∧ DO K m t f m'
def eSl (gg : PyData → Option Int → Option Int → Option PyData) (a : Ef) (l u : Of) : Ef := fun e => (a e).bind fun p => (l p.2).bind fun q => (u q.2).bind fun r => (gg p.1 q.1 r.1).bind fun d => some (d, r.2)
section
variable {ι : Type} {Xf : ι → Cx} {P : Program} {w : World} {K : PySem.W.Frag} {mg : Str → Option Value} {base : Heap} {n : Nat} [F : Fam Xf P w K mg base n]
variable {m m1 m2 m3 : List Ty} {pos p p2 : Pos} {a b c : Expr} {f g h : Ef}
include F
theorem kkIx {r : PySem.W.Frag → R2} (h : ∀ X : Cx, IxR X (r X.K)) (i : ι) : IxR (Xf i) (r K) := by
  have := h (Xf i)
  rw [F.kk i] at this
  exact this
theorem ixAny : Ix2 Xf K .s gIx := by
  refine ⟨_, fun i => IxR.or (kkIx (fun X => ix_list) i) (IxR.or (kkIx (fun X => ix_tup) i) ix_str), fun {m G H σ e A x y dx dy d Q} st hx hy ee k => ?_⟩
  unfold gIx at ee
  split at ee
  · obtain ⟨a, xs, rfl, r1, z1, q1⟩ := dq_lst hx
    obtain rfl := dq_int hy
    obtain ⟨v, hv, qv⟩ := atI_dq q1 ee
    exact .inl ⟨_, _, _, v, rfl, rfl, .inl (same_rd st.sub r1), hv, ans_s st qv k⟩
  · obtain ⟨a, xs, rfl, r1, z1, q1⟩ := dq_tup hx
    obtain rfl := dq_int hy
    obtain ⟨v, hv, qv⟩ := atI_dq q1 ee
    exact .inr (.inl ⟨_, _, _, v, rfl, rfl, same_seqT st.sub r1, hv, ans_s st qv k⟩)
  · obtain ⟨rfl, z1⟩ := dq_str hx
    obtain rfl := dq_int hy
    obtain ⟨cc, hc, rfl⟩ := Option.map_eq_some_iff.mp ee
    exact .inr (.inr ⟨_, _, cc, rfl, rfl, z1, hc, ans_s st (.str _ (by show 1 ≤ sizeLine; decide)) k⟩)
  · cases ee
omit F in
theorem pp_none : PP Xf K m none oNone m := ⟨_, fun i => po_none, fun st hf k => by cases hf; exact k _ _ _ Step.refl st⟩
omit F in
theorem pp_some (ha : PD Xf K m a .s f m1) : PP Xf K m (some a) (oSome f) m1 := by
  obtain ⟨ta, pa, da⟩ := ha.ex
  refine ⟨_, fun i => po_some (pa i), fun {G H σ e A o e' Q} st hf k => ?_⟩
  unfold oSome at hf
  obtain ⟨⟨d1, e1⟩, hf1, hf⟩ := oBs hf
  obtain ⟨o1, hf2, hf⟩ := oBs hf
  cases hf
  refine da st hf1 fun G1 H1 v1 A1 B1 s1 st1 o1 nd1 => ?_
  cases o1 with
  | s q1 =>
    cases d1 with
    | int i =>
      cases hf2
      obtain rfl := dq_int q1
      exact ⟨i, rfl, k _ _ _ s1 st1⟩
    | _ => cases hf2
theorem kkSl {r : PySem.W.Frag → V → Option Int → Option Int → Hp → VK → Prop} (h : ∀ X : Cx, SlR X (r X.K)) (i : ι) : SlR (Xf i) (r K) := by
  have := h (Xf i)
  rw [F.kk i] at this
  exact this
theorem pd_slice {lo hi : Option Expr} {fl fu : Of} (ha : PD Xf K m a .s f m1) (hl : PP Xf K m1 lo fl m2) (hu : PP Xf K m2 hi fu m3) : PD Xf K m (.Subscript a (.Slice lo hi none p2) pos) .s (eSl gSl f fl fu) m3 := by
  obtain ⟨ta, pa, da⟩ := ha.ex
  obtain ⟨tl, pl, dl⟩ := hl.ex
  obtain ⟨tu, pu, du⟩ := hu.ex
  refine ⟨_, fun i => pe_slice (SlR.or (kkSl (fun X => sl_list) i) (SlR.or (kkSl (fun X => sl_tupN) i) sl_str)) (pa i) (pl i) (pu i), fun {G H σ e A d e' Q} st hf k => ?_⟩
  unfold eSl at hf
  obtain ⟨⟨d1, e1⟩, hf1, hf⟩ := oBs hf
  obtain ⟨⟨lo1, e2⟩, hf2, hf⟩ := oBs hf
  obtain ⟨⟨hi1, e3⟩, hf3, hf⟩ := oBs hf
  obtain ⟨d2, hf4, hf⟩ := oBs hf
  cases hf
  refine da st hf1 fun G1 H1 v1 A1 B1 s1 st1 o1 nd1 => ?_
  cases o1 with
  | s q1 =>
    refine dl st1 hf2 fun G2 H2 A2 s2 st2 => du st2 hf3 fun G3 H3 A3 s3 st3 => ?_
    have q3 := q1.mono (s2.sg.trans s3.sg)
    have s0 : Step A G H A3 G3 H3 := (s1.seq0 s2).seq0 s3
    have k' : ∀ (G' H' : Hp) (v : V) (Av A' : List Addr), Step A3 G3 H3 (Av ++ A') G' H' → Stt K m3 G' H' σ e3 A' → Own K G' H' .s d (some v) Av → (Av ++ A').Nodup → Q v H' := fun G' H' v Av A' s4 st4 o4 nd4 => k G' H' v Av A' (s0.seq0 s4) st4 o4 nd4
    cases d1 with
    | list ds =>
      cases hf4
      obtain ⟨a, xs, rfl, r1, z1, q1⟩ := dq_lst q3
      exact .inl ⟨a, xs, rfl, .inl (same_rd st3.sub r1), ans_lst st3 (cut_dq q1 _ _) (Nat.le_trans (cutV_length _ _ _) z1) (kfrz rfl k')⟩
    | tuple ds =>
      cases hf4
      obtain ⟨a, xs, rfl, r1, z1, q1⟩ := dq_tup q3
      refine .inr (.inl ⟨a, xs, rfl, same_seqT st3.sub r1, fun hw => ?_, fun _ => ans_tup st3 (cut_dq q1 _ _) (Nat.le_trans (cutV_length _ _ _) z1) k'⟩)
      rw [q1.1] at hw
      rw [cutD_all hw] at k'
      exact ans_s st3 q3 k'
    | str z =>
      cases hf4
      obtain ⟨rfl, z1⟩ := dq_str q3
      exact .inr (.inr ⟨_, rfl, z1, ans_s st3 (.str _ (Nat.le_trans (cutS_len _ _ _) z1)) k'⟩)
    | _ => cases hf4
end
end DL
namespace DL
open PySem L2 PySem.Spec
def gTruth : PyData → Option Bool
  | .none => some false
  | .bool b => some b
  | .int i => some (i != 0)
  | .str y => some ((y.length : Int) != 0)
  | .list xs => some (!xs.isEmpty)
  | .tuple xs => some (!xs.isEmpty)
  | _ => none
def bOf (f : Ef) : Bf := fun e => (f e).bind fun p => (gTruth p.1).bind fun b => some (b, p.2)
def bAnd (f g : Bf) : Bf := fun e => (f e).bind fun p => if p.1 = true then g p.2 else some (false, p.2)
def bOr (f g : Bf) : Bf := fun e => (f e).bind fun p => if p.1 = true then some (true, p.2) else g p.2
def bNot (f : Bf) : Bf := fun e => (f e).bind fun p => some (!p.1, p.2)
def eAnd (f g : Ef) : Ef := fun e => (f e).bind fun p => match p.1 with
  | .bool true => g p.2
  | .bool false => some (.bool false, p.2)
  | _ => none
def eOr (f g : Ef) : Ef := fun e => (f e).bind fun p => match p.1 with
  | .bool true => some (.bool true, p.2)
  | .bool false => g p.2
  | _ => none
def eIf (c : Bf) (f g : Ef) : Ef := fun e => (c e).bind fun p => if p.1 = true then f p.2 else g p.2
def eChain (g1 g2 : PyData → PyData → Option PyData) (a b c : Ef) : Ef := fun e => (a e).bind fun p => (b p.2).bind fun q => (g1 p.1 q.1).bind fun r => match r with
  | .bool true => (c q.2).bind fun t => (g2 q.1 t.1).bind fun z => some (z, t.2)
  | .bool false => some (.bool false, q.2)
  | _ => none
section
variable {ι : Type} {Xf : ι → Cx} {P : Program} {w : World} {K : PySem.W.Frag} {mg : Str → Option Value} {base : Heap} {n : Nat} [F : Fam Xf P w K mg base n]
variable {m m1 m2 m3 : List Ty} {pos p p2 : Pos} {a b c : Expr} {f g h : Ef} {fb gb : Bf} {ty : Ty} {rest : List Expr}
theorem truV_of {G H : Hp} {v : V} {d : PyData} {b : Bool} (q : Dq K G v d) (sub : Same G H) (h : gTruth d = some b) : TruV K v H b := by
  cases q with
  | non => cases h; rfl
  | bl => cases h; rfl
  | int => cases h; rfl
  | str x hx => cases h; exact ⟨hx, rfl⟩
  | @lst a xs ds hs hl hz _ =>
    cases h
    refine .inl ⟨xs, .inl (same_rd sub hs), ?_⟩
    cases xs <;> cases ds <;> simp_all
  | @tup a xs ds hs hl hz _ =>
    cases h
    refine .inr (.inl ⟨xs, same_seqT sub hs.sq, ?_⟩)
    cases xs <;> cases ds <;> simp_all
  | dic => cases h
  | dv => cases h
  | ob => cases h
include F in
theorem pb_of (ha : PD Xf K m a .s f m1) (he : ∀ i whole, isTrue a (Xf i).env whole = (do let v ← whole; standAt a.pos; holding [v] (truthy v)) := by intro _ _; rfl) : PB Xf K m a (bOf f) m1 := by
  obtain ⟨ta, pa, da⟩ := ha.ex
  refine ⟨fun σ H Q => ta σ H fun x H' => ∃ k, TruV K x H' k ∧ Q k H', fun i => ?_, fun {G H σ e A b e' Q} st hf k => ?_⟩
  · have := pt_truth (X := Xf i) (pa i) (he i)
    rw [F.kk i] at this
    exact this
  · unfold bOf at hf
    obtain ⟨⟨d1, e1⟩, hf1, hf⟩ := oBs hf
    obtain ⟨b1, hf2, hf⟩ := oBs hf
    cases hf
    refine da st hf1 fun G1 H1 v1 A1 B1 s1 st1 o1 nd1 => ?_
    cases o1 with
    | s q1 => exact ⟨_, truV_of q1 st1.sub hf2, k _ _ _ s1 st1⟩
theorem DT.and {t u : TT} (ha : DT K m t fb m1) (hb : DT K m1 u gb m1) : DT K m (tAnd t u) (bAnd fb gb) m1 := by
  intro G H σ e A b e' Q st hf k
  unfold bAnd at hf
  obtain ⟨⟨b1, e1⟩, hf1, hf⟩ := oBs hf
  refine ha st hf1 fun G1 H1 A1 s1 st1 => ?_
  cases b1 with
  | true => rw [if_pos rfl] at hf ⊢; exact hb st1 hf fun G2 H2 A2 s2 st2 => k _ _ _ (s1.seq0 s2) st2
  | false => rw [if_neg (by simp)] at hf ⊢; cases hf; exact k _ _ _ s1 st1
theorem DT.or {t u : TT} (ha : DT K m t fb m1) (hb : DT K m1 u gb m1) : DT K m (tOr t u) (bOr fb gb) m1 := by
  intro G H σ e A b e' Q st hf k
  unfold bOr at hf
  obtain ⟨⟨b1, e1⟩, hf1, hf⟩ := oBs hf
  refine ha st hf1 fun G1 H1 A1 s1 st1 => ?_
  cases b1 with
  | true => rw [if_pos rfl] at hf ⊢; cases hf; exact k _ _ _ s1 st1
  | false => rw [if_neg (by simp)] at hf ⊢; exact hb st1 hf fun G2 H2 A2 s2 st2 => k _ _ _ (s1.seq0 s2) st2
theorem pbw_and1 (ha : PB Xf K m a fb m1) : PBw Xf K m (.BoolOp .And [a] pos) fb m1 := by
  obtain ⟨ta, pa, da⟩ := ha.ex
  exact ⟨ta, fun i => pw_and1 (pa i), da⟩
theorem pbw_or1 (ha : PB Xf K m a fb m1) : PBw Xf K m (.BoolOp .Or [a] pos) fb m1 := by
  obtain ⟨ta, pa, da⟩ := ha.ex
  exact ⟨ta, fun i => pw_or1 (pa i), da⟩
theorem pbw_and (ha : PB Xf K m a fb m1) (hb : PBw Xf K m1 (.BoolOp .And (b :: rest) pos) gb m1) : PBw Xf K m (.BoolOp .And (a :: b :: rest) pos) (bAnd fb gb) m1 := by
  obtain ⟨ta, pa, da⟩ := ha.ex
  obtain ⟨tb, pb, db⟩ := hb.ex
  exact ⟨_, fun i => pw_and (pa i) (pb i), DT.and da db⟩
theorem pbw_or (ha : PB Xf K m a fb m1) (hb : PBw Xf K m1 (.BoolOp .Or (b :: rest) pos) gb m1) : PBw Xf K m (.BoolOp .Or (a :: b :: rest) pos) (bOr fb gb) m1 := by
  obtain ⟨ta, pa, da⟩ := ha.ex
  obtain ⟨tb, pb, db⟩ := hb.ex
  exact ⟨_, fun i => pw_or (pa i) (pb i), DT.or da db⟩
theorem pb_w (ha : PBw Xf K m a fb m1) : PB Xf K m a fb m1 := by
  obtain ⟨ta, pa, da⟩ := ha.ex
  exact ⟨ta, fun i => (pa i).pt, da⟩
theorem pb_not (ha : PB Xf K m a fb m1) : PB Xf K m (.UnaryOp .Not a pos) (bNot fb) m1 := by
  obtain ⟨ta, pa, da⟩ := ha.ex
  refine ⟨_, fun i => pt_not (pa i), fun {G H σ e A b e' Q} st hf k => ?_⟩
  unfold bNot at hf
  obtain ⟨⟨b1, e1⟩, hf1, hf⟩ := oBs hf
  cases hf
  exact da st hf1 fun G1 H1 A1 s1 st1 => k _ _ _ s1 st1
theorem pd_and1 (ha : PD Xf K m a .s f m1) : PD Xf K m (.BoolOp .And [a] pos) .s f m1 := by
  obtain ⟨ta, pa, da⟩ := ha.ex
  exact ⟨ta, fun i => pe_one (pa i), da⟩
theorem pd_or1 (ha : PD Xf K m a .s f m1) : PD Xf K m (.BoolOp .Or [a] pos) .s f m1 := by
  obtain ⟨ta, pa, da⟩ := ha.ex
  exact ⟨ta, fun i => pe_one (pa i), da⟩
theorem pd_and (ha : PD Xf K m a .s f m1) (hb : PD Xf K m1 (.BoolOp .And (b :: rest) pos) .s g m1) : PD Xf K m (.BoolOp .And (a :: b :: rest) pos) .s (eAnd f g) m1 := by
  obtain ⟨ta, pa, da⟩ := ha.ex
  obtain ⟨tb, pb, db⟩ := hb.ex
  refine ⟨_, fun i => pe_and (pa i) (pb i), fun {G H σ e A d e' Q} st hf k => ?_⟩
  unfold eAnd at hf
  obtain ⟨⟨d1, e1⟩, hf1, hf⟩ := oBs hf
  refine da st hf1 fun G1 H1 v1 A1 B1 s1 st1 o1 nd1 => ?_
  cases o1 with
  | s q1 =>
    cases q1 with
    | bl b1 =>
      cases b1 with
      | true => exact ⟨true, rfl, db st1 hf fun G2 H2 v2 A2 B2 s2 st2 o2 nd2 => k _ _ _ _ _ (s1.seq0 s2) st2 o2 nd2⟩
      | false => cases hf; exact ⟨false, rfl, ans_s st1 (.bl false) fun G2 H2 v2 A2 B2 s2 st2 o2 nd2 => k _ _ _ _ _ (s1.seq0 s2) st2 o2 nd2⟩
    | _ => cases hf
theorem pd_ifexp (hc : PB Xf K m c fb m1) (ha : PD Xf K m1 a ty f m2) (hb : PD Xf K m1 b ty g m2) : PD Xf K m (.IfExp c a b pos) ty (eIf fb f g) m2 := by
  obtain ⟨tc, pc, dc⟩ := hc.ex
  obtain ⟨ta, pa, da⟩ := ha.ex
  obtain ⟨tb, pb, db⟩ := hb.ex
  refine ⟨_, fun i => pe_ifExp (pc i) (pa i) (pb i), fun {G H σ e A d e' Q} st hf k => ?_⟩
  unfold eIf at hf
  obtain ⟨⟨b1, e1⟩, hf1, hf⟩ := oBs hf
  refine dc st hf1 fun G1 H1 A1 s1 st1 => ?_
  cases b1 with
  | true => rw [if_pos rfl] at hf ⊢; exact da st1 hf fun G2 H2 v2 A2 B2 s2 st2 o2 nd2 => k _ _ _ _ _ (s1.seq0 s2) st2 o2 nd2
  | false => rw [if_neg (by simp)] at hf ⊢; exact db st1 hf fun G2 H2 v2 A2 B2 s2 st2 o2 nd2 => k _ _ _ _ _ (s1.seq0 s2) st2 o2 nd2
theorem DE.chain {r r' : R2} {ta tb tc : TE} {g1 g2 : PyData → PyData → Option PyData} (ha : DE K m ta .s f m1) (hb : DE K m1 tb .s g m2) (hc : DE K m2 tc .s h m2) (hr : D2 K r .s g1) (hr' : D2 K r' .s g2) : DE K m (tChain r r' ta tb tc) .s (eChain g1 g2 f g h) m2 := by
  intro G H σ e A d e' Q st hf k
  unfold eChain at hf
  obtain ⟨⟨d1, e1⟩, hf1, hf⟩ := oBs hf
  obtain ⟨⟨d2, e2⟩, hf2, hf⟩ := oBs hf
  obtain ⟨d3, hf3, hf⟩ := oBs hf
  refine ha st hf1 fun G1 H1 v1 A1 B1 s1 st1 o1 nd1 => ?_
  cases o1 with
  | s q1 =>
    refine hb st1 hf2 fun G2 H2 v2 A2 B2 s2 st2 o2 nd2 => ?_
    cases o2 with
    | s q2 =>
      refine hr st2 (q1.mono s2.sg) q2 hf3 fun G3 H3 v3 A3 B3 s3 st3 o3 nd3 => ?_
      cases o3 with
      | s q3 =>
        have s03 := (s1.seq0 s2).seq0 s3
        cases q3 with
        | bl b3 =>
          refine ⟨b3, rfl, ?_⟩
          cases b3 with
          | true =>
            rw [if_pos rfl]
            obtain ⟨⟨d4, e4⟩, hf4, hf⟩ := oBs hf
            obtain ⟨d5, hf5, hf⟩ := oBs hf
            cases hf
            refine hc st3 hf4 fun G4 H4 v4 A4 B4 s4 st4 o4 nd4 => ?_
            cases o4 with
            | s q4 => exact hr' st4 (q2.mono (s3.sg.trans s4.sg)) q4 hf5 fun G5 H5 v5 A5 B5 s5 st5 o5 nd5 => k _ _ _ _ _ ((s03.seq0 s4).seq0 s5) st5 o5 nd5
          | false =>
            rw [if_neg (by simp)]
            cases hf
            exact ans_s st3 (.bl false) fun G5 H5 v5 A5 B5 s5 st5 o5 nd5 => k _ _ _ _ _ (s03.seq0 s5) st5 o5 nd5
        | _ => cases hf
theorem pd_chain {op op' : CmpOp} {g1 g2 : PyData → PyData → Option PyData} (ho : Op2 Xf K (compareOp op) .s g1) (ho' : Op2 Xf K (compareOp op') .s g2) (ha : PD Xf K m a .s f m1) (hb : PD Xf K m1 b .s g m2) (hc : PD Xf K m2 c .s h m2)
    (hm : lastMarks [op, op'] [b, c] = false := by with_unfolding_all rfl) : PD Xf K m (.Compare a [op, op'] [b, c] pos) .s (eChain g1 g2 f g h) m2 := by
  obtain ⟨r, hr, dr⟩ := ho.ex
  obtain ⟨r', hr', dr'⟩ := ho'.ex
  obtain ⟨ta, pa, da⟩ := ha.ex
  obtain ⟨tb, pb, db⟩ := hb.ex
  obtain ⟨tc, pc, dc⟩ := hc.ex
  exact ⟨_, fun i => pe_chain (hr i) (hr' i) (pa i) (pb i) (pc i) hm, DE.chain da db dc dr dr'⟩
theorem DE.test {te : TE} (ha : DE K m te .s f m1) : DT K m (tTest te) (fun e => (f e).bind fun p => match p.1 with | .bool b => some (b, p.2) | _ => none) m1 := by
  intro G H σ e A b e' Q st hf k
  obtain ⟨⟨d1, e1⟩, hf1, hf⟩ := oBs hf
  refine ha st hf1 fun G1 H1 v1 A1 B1 s1 st1 o1 nd1 => ?_
  cases o1 with
  | s q1 =>
    cases q1 with
    | bl b1 => cases hf; exact ⟨_, rfl, k _ _ _ s1 st1⟩
    | _ => cases hf
end
def bT (f : Ef) : Bf := fun e => (f e).bind fun p => match p.1 with | .bool b => some (b, p.2) | _ => none
section
variable {ι : Type} {Xf : ι → Cx} {P : Program} {w : World} {K : PySem.W.Frag} {mg : Str → Option Value} {base : Heap} {n : Nat} [F : Fam Xf P w K mg base n]
variable {m m1 m2 m3 : List Ty} {pos p p2 : Pos} {a b c : Expr} {f g h : Ef} {fb gb : Bf} {ty : Ty} {rest : List Expr}
theorem pb_cmp {op : CmpOp} {gg : PyData → PyData → Option PyData} (ho : Op2 Xf K (compareOp op) .s gg) (ha : PD Xf K m a .s f m1) (hb : PD Xf K m1 b .s g m2) (hm : behindInMarks op b = false := by first | exact nomark _ | rfl) : PB Xf K m (.Compare a [op] [b] pos) (bT (e2 gg f g)) m2 := by
  obtain ⟨r, hr, dr⟩ := ho.ex
  obtain ⟨ta, pa, da⟩ := ha.ex
  obtain ⟨tb, pb, db⟩ := hb.ex
  exact ⟨_, fun i => pt_cmpR (hr i) (pa i) (pb i) hm, DE.test (DE.bin da db dr)⟩
end
def LendOk (σ : St) (vs : List V) (L : List (Option Nat)) : Prop := ∀ k j : Nat, L[k]? = some (some j) → ∃ v, vs[k]? = some v ∧ σ[j]? = some (some v)
def DAL (K : PySem.W.Frag) (m : List Ty) (ta : TA) (tys : List Ty) (L : List (Option Nat)) (f : Lf) (m' : List Ty) : Prop :=
  ∀ {G H : Hp} {σ : St} {e : En} {A : List Addr} {ds : List PyData} {e' : En} {Q : List V → Hp → Prop}, Stt K m G H σ e A → f e = some (ds, e') →
    (∀ (G' H' : Hp) (vs : List V) (Av A' : List Addr), Step A G H (Av ++ A') G' H' → Stt K m' G' H' σ e' A' → OwnA K G' H' tys ds (vs.map some) Av → (Av ++ A').Nodup → LendOk σ vs L → Q vs H') → ta σ H Q
structure PAL {ι : Type} (Xf : ι → Cx) (K : PySem.W.Frag) (m : List Ty) (es : List Expr) (tys : List Ty) (L : List (Option Nat)) (f : Lf) (m' : List Ty) : Prop where
  ex : ∃ ta : TA, (∀ i, PA (Xf i) es ta) ∧ DAL K m ta tys L f m'
def lNil : Lf := fun e => some ([], e)
def lCons (f : Ef) (r : Lf) : Lf := fun e => (f e).bind fun p => (r p.2).bind fun q => some (p.1 :: q.1, q.2)
def eLend : Ef := fun e => some (.none, e)
section
variable {ι : Type} {Xf : ι → Cx} {P : Program} {w : World} {K : PySem.W.Frag} {mg : Str → Option Value} {base : Heap} {n : Nat} [F : Fam Xf P w K mg base n]
variable {m m1 m2 m3 : List Ty} {pos p p2 : Pos} {a b c : Expr} {es : List Expr} {f g h : Ef} {fr : Lf} {ty : Ty} {tys : List Ty} {L : List (Option Nat)}
theorem pl_nil : PAL Xf K m [] [] [] lNil m := ⟨_, fun i => pa_nil, fun {G H σ e A ds e' Q} st hf k => by
  cases hf
  exact k G H [] [] A Step.refl st .nil st.nd fun k j h => by simp at h⟩
theorem DAL.cons {te : TE} {ta : TA} (ha : DE K m te ty f m1) (hr : DAL K m1 ta tys L fr m2) : DAL K m (tCons te ta) (ty :: tys) (none :: L) (lCons f fr) m2 := by
  intro G H σ e A ds e' Q st hf k
  unfold lCons at hf
  obtain ⟨⟨d1, e1⟩, hf1, hf⟩ := oBs hf
  obtain ⟨⟨ds1, e2⟩, hf2, hf⟩ := oBs hf
  cases hf
  refine ha st hf1 fun G1 H1 v1 A1 B1 s1 st1 o1 nd1 => hr st1 hf2 fun G2 H2 vs A2 B2 s2 st2 o2 nd2 hl => ?_
  obtain ⟨s3, nd3, hg, hh⟩ := s1.seq (own_at o1) nd1 s2 nd2
  rw [← List.append_assoc] at s3 nd3
  refine k G2 H2 (v1 :: vs) (A1 ++ A2) B2 s3 st2 (.cons (own_fr o1 s2.sg hg hh) o2) nd3 fun kk j hj => ?_
  cases kk with
  | zero => simp at hj
  | succ kk => exact hl kk j (by simpa using hj)
theorem pl_cons (ha : PD Xf K m a ty f m1) (hr : PAL Xf K m1 es tys L fr m2) (hs : ∀ i, starEach (a :: es) (Xf i).env = (false, eval a (Xf i).env) :: starEach es (Xf i).env := by intro _; rfl) : PAL Xf K m (a :: es) (ty :: tys) (none :: L) (lCons f fr) m2 := by
  obtain ⟨ta, pa, da⟩ := ha.ex
  obtain ⟨tr, pr, dr⟩ := hr.ex
  exact ⟨_, fun i => pa_cons (pa i) (pr i) (hs i), DAL.cons da dr⟩
theorem pl_lend (j : Nat) {x : Str} {t : Ty} (hr : PAL Xf K m es tys L fr m2) (hm : m[j]? = some t := by rfl) (hu : t ≠ .u := by exact fun z => nomatch z) (hN : ∀ i, (Xf i).N[j]? = some x := by intro _; rfl)
    (hv : ∀ i, Vis (Xf i).env.scope x := by first | (intro _; exact Or.inl rfl) | (intro _; exact Or.inr (Or.inl rfl)) | (intro _; exact Or.inr (Or.inr rfl))) (hd : (x == ("__debug__" : Str)) = false := by decide)
    (hcd : (x == ("__classdict__" : Str)) = false := by decide) (hs : ∀ i, starEach (.Name x pos :: es) (Xf i).env = (false, eval (.Name x pos) (Xf i).env) :: starEach es (Xf i).env := by intro _; rfl) :
    PAL Xf K m (.Name x pos :: es) (.u :: tys) (some j :: L) (lCons eLend fr) m2 := by
  obtain ⟨tr, pr, dr⟩ := hr.ex
  refine ⟨_, fun i => pa_cons (pe_var (i := j) (hN i) (hv i) hd hcd) (pr i) (hs i), fun {G H σ e A ds e' Q} st hf k => ?_⟩
  unfold lCons eLend at hf
  obtain ⟨⟨d1, e1⟩, hf1, hf⟩ := oBs hf
  cases hf1
  obtain ⟨⟨ds1, e2⟩, hf2, hf⟩ := oBs hf
  cases hf
  obtain ⟨d', v, Aj, A0, h1, h2, h3, h4, hp⟩ := ownA_take st.own hm
  have hv : ∃ x, v = some x := by
    cases h3 with
    | u => exact absurd rfl hu
    | s => exact ⟨_, rfl⟩
    | e => exact ⟨_, rfl⟩
    | k => exact ⟨_, rfl⟩
    | a => exact ⟨_, rfl⟩
    | q => exact ⟨_, rfl⟩
    | d => exact ⟨_, rfl⟩
    | t => exact ⟨_, rfl⟩
    | o => exact ⟨_, rfl⟩
    | f => exact ⟨_, rfl⟩
    | x => exact ⟨_, rfl⟩
    | g => exact ⟨_, rfl⟩
    | l => exact ⟨_, rfl⟩
    | r => exact ⟨_, rfl⟩
  obtain ⟨x, rfl⟩ := hv
  refine ⟨x, h2, dr st hf2 fun G2 H2 vs A2 B2 s2 st2 o2 nd2 hl => k G2 H2 (x :: vs) A2 B2 s2 st2 (OwnA.cons (A := []) (.u _ _) o2) nd2 fun kk j' hj => ?_⟩
  cases kk with
  | zero =>
    simp at hj
    subst hj
    exact ⟨x, rfl, h2⟩
  | succ kk => exact hl kk j' (by simpa using hj)
def eTup (r : Lf) : Ef := fun e => (r e).bind fun p => some (.tuple p.1, p.2)
def eLst (r : Lf) : Ef := fun e => (r e).bind fun p => some (.list p.1, p.2)
theorem pd_tup {k : Nat} (hr : PAL Xf K m es (List.replicate k .s) L fr m1) (hk : es.length = k := by rfl) (hz : k ≤ sizeLine := by decide) {x1} : PD Xf K m (.Tuple es x1 pos) .s (eTup fr) m1 := by
  obtain ⟨tr, pr, dr⟩ := hr.ex
  refine ⟨_, fun i => pe_tupN (pr i), fun {G H σ e A d e' Q} st hf k' => ?_⟩
  unfold eTup at hf
  obtain ⟨⟨ds1, e1⟩, hf1, hf⟩ := oBs hf
  cases hf
  refine dr st hf1 fun G1 H1 vs A1 B1 s1 st1 o1 nd1 _ => ?_
  obtain ⟨e0, q⟩ := of_ownA o1
  subst e0
  have hl := (ownA_len o1).1
  rw [List.length_replicate] at hl
  have hz2 : vs.length ≤ sizeLine := by rw [q.1, ← hl]; exact hz
  exact ⟨hz2, ans_tup st1 q hz2 fun G2 H2 v2 A2 B2 s2 st2 o2 nd2 => k' _ _ _ _ _ (s1.seq0 s2) st2 o2 nd2⟩
theorem DAL.lst {ta : TA} {tyR : Ty} {tys : List Ty} (dr : DAL K m ta tys L fr m1) (hz : tys.length ≤ sizeLine) (mk : ∀ {G H : Hp} {a : Addr} {vs : List V} {ds : List PyData} {A : List Addr}, G a = none → H a = some (.lst vs) → vs.length ≤ sizeLine → OwnA K G H tys ds (vs.map some) A → Own K G H tyR (.list ds) (some (.ref a)) (a :: A)) : DE K m (tLst ta) tyR (eLst fr) m1 := by
  intro G H σ e A d e' Q st hf k'
  unfold eLst at hf
  obtain ⟨⟨ds1, e1⟩, hf1, hf⟩ := oBs hf
  cases hf
  refine dr st hf1 fun G1 H1 vs A1 B1 s1 st1 o1 nd1 _ => ?_
  have hl := ownA_len o1
  have hz2 : vs.length ≤ sizeLine := by have := hl.2; rw [List.length_map] at this; omega
  refine ⟨hz2, fun p hp => ?_⟩
  obtain ⟨s2, st2, nd2, gp⟩ := new_o (o := .lst vs) (B := []) st1 hp
  have nv : ∀ a ∈ A1, a ≠ p := fun a ha z => by obtain ⟨_, o, e⟩ := ownA_at o1 a ha; rw [z, hp] at e; cases e
  have o1' : OwnA K G1 (upd H1 p (.lst vs)) tys ds1 (vs.map some) A1 := ownA_fr o1 (Same.refl _) (fun a ha => (ownA_at o1 a ha).1) fun a ha => upd_ne (nv a ha)
  have nd3 : (p :: (A1 ++ B1)).Nodup := List.nodup_cons.mpr ⟨fun h => (List.mem_append.mp h).elim (fun h => nv p h rfl) fun h => (List.nodup_cons.mp nd2).1 h, nd1⟩
  refine k' G1 (upd H1 p (.lst vs)) (.ref p) (p :: A1) B1 ?_ st2 (mk gp upd_same hz2 o1') nd3
  refine ⟨s1.sg, fun a o h ha => ?_, fun a ha => ?_, s1.gnew⟩
  · have h1 := s1.fr a o h ha
    rw [upd_ne (ne_of_none h1 hp)]; exact h1
  · rcases List.mem_cons.mp ha with rfl | ha
    · exact s1.back hp
    · exact s1.own a ha
theorem pd_lst {k : Nat} (t : Ty) (hr : PAL Xf K m es (List.replicate k t) L fr m1) (hz : k ≤ sizeLine := by decide) : PD Xf K m (.List es pos) (.l t) (eLst fr) m1 := by
  obtain ⟨tr, pr, dr⟩ := hr.ex
  refine ⟨_, fun i => pe_lst (pr i), DAL.lst dr (by rw [List.length_replicate]; exact hz) fun h1 h2 h3 o => .l h1 h2 h3 ?_⟩
  have hl := (ownA_len o).1
  rw [List.length_replicate] at hl
  rw [← hl]; exact o
theorem pd_rec (hr : PAL Xf K m es tys L fr m1) (hz : tys.length ≤ sizeLine := by decide) : PD Xf K m (.List es pos) (.r tys) (eLst fr) m1 := by
  obtain ⟨tr, pr, dr⟩ := hr.ex
  exact ⟨_, fun i => pe_lst (pr i), DAL.lst dr hz fun h1 h2 h3 o => .r h1 h2 h3 o⟩
end
end DL
namespace DL
open PySem L2 PySem.Spec
inductive LeT : Ty → Ty → Prop
  | rfl (t : Ty) : LeT t t
  | u (t : Ty) : LeT t .u
  | s (t : Ty) (h : nou t = true) : LeT t .s
  | kr (v2 : V) (t0 t1 t2 : Ty) : LeT (.r [t0, t1, .k v2 t2]) (.r [t0, t1, t2])
  | kd (v : V) (t : Ty) : LeT (.k v t) t
  | f (C : Addr) (ns : List Str) (ts : List Ty) (h : nouL ts = true) : LeT (.o C ns ts) (.f C ns)
theorem frz_allT {K : PySem.W.Frag} {G G' H : Hp} (e : Same G G') : ∀ {ts : List Ty} {ds : List PyData} {vs : List V} {A : List Addr}, OwnA K G H ts ds (vs.map some) A → (∀ a ∈ A, G' a = H a) → nouL ts = true → DqA K G' vs ds
  | [], ds, vs, A, o, hg, hn => by
    cases vs with
    | nil => cases o; exact DqA.nil
    | cons v vs => cases o
  | t :: ts, ds, vs, A, o, hg, hn => by
    cases vs with
    | nil => cases o
    | cons v vs =>
      have o : OwnA K G H (t :: ts) ds (some v :: vs.map some) A := o
      cases o with
      | @cons _ _ d ds' _ _ A1 B1 o1 o2 =>
        have hn : (nou t && nouL ts) = true := hn
        rw [Bool.and_eq_true] at hn
        obtain ⟨x, hx, q⟩ := own_frz o1 e (fun a ha => hg a (List.mem_append_left _ ha)) hn.1
        cases hx
        exact DqA.cons q (frz_allT e o2 (fun a ha => hg a (List.mem_append_right _ ha)) hn.2)
theorem own_of_k {K : PySem.W.Frag} {G H : Hp} {v : V} {t : Ty} {d : PyData} {x : Option V} {A : List Addr} (h : Own K G H (.k v t) d x A) : x = some v ∧ Own K G H t d x A := by
  cases h with
  | k h => exact ⟨rfl, h⟩
theorem ownA_unk3 {K : PySem.W.Frag} {G H : Hp} {v2 : V} {t0 t1 t2 : Ty} {ds : List PyData} {vs : List (Option V)} {A : List Addr} (h : OwnA K G H [t0, t1, .k v2 t2] ds vs A) : OwnA K G H [t0, t1, t2] ds vs A := by
  cases h with
  | cons h1 h =>
    cases h with
    | cons h2 h =>
      cases h with
      | cons h3 h =>
        cases h
        exact .cons h1 (.cons h2 (.cons (own_of_k h3).2 .nil))
theorem own_unk {K : PySem.W.Frag} {G H : Hp} {v2 : V} {t0 t1 t2 : Ty} {d : PyData} {v : Option V} {A : List Addr} (h : Own K G H (.r [t0, t1, .k v2 t2]) d v A) : Own K G H (.r [t0, t1, t2]) d v A := by
  cases h with
  | r ga ha hz o => exact .r ga ha hz (ownA_unk3 o)
inductive LeM : List Ty → List Ty → Prop
  | nil : LeM [] []
  | cons {t t' : Ty} {m m' : List Ty} : LeT t t' → LeM m m' → LeM (t :: m) (t' :: m')
theorem LeM.refl : ∀ m : List Ty, LeM m m
  | [] => .nil
  | t :: m => .cons (.rfl t) (LeM.refl m)
section
variable {K : PySem.W.Frag} {G H : Hp}
theorem ownA_le {m m' : List Ty} (l : LeM m m') : ∀ {e : En} {σ : St} {A : List Addr}, OwnA K G H m e σ A →
    ∃ Fz Dr A' : List Addr, A.Perm (Fz ++ (Dr ++ A')) ∧ ∀ G' : Hp, Same G G' → (∀ a ∈ Fz, G' a = H a) → (∀ a ∈ A', G' a = none) → OwnA K G' H m' e σ A' := by
  induction l with
  | nil => intro e σ A h; cases h; exact ⟨[], [], [], by simp, fun _ _ _ _ => .nil⟩
  | @cons t t' m m' lt lm ih =>
    intro e σ A h
    cases h with
    | @cons _ _ d ds v vs A1 A2 h1 h2 =>
      obtain ⟨Fz, Dr, A', p, k⟩ := ih h2
      cases lt with
      | rfl =>
        refine ⟨Fz, Dr, A1 ++ A', ?_, fun G' sg hf ha => .cons (own_fr h1 sg (fun a h => ha a (List.mem_append_left _ h)) fun _ _ => rfl) (k G' sg hf fun a h => ha a (List.mem_append_right _ h))⟩
        refine (List.Perm.append_left A1 p).trans (List.perm_iff_count.mpr fun z => ?_)
        simp only [List.count_append]; omega
      | kr v2 t0 t1 t2 =>
        refine ⟨Fz, Dr, A1 ++ A', ?_, fun G' sg hf ha => .cons (own_unk (own_fr h1 sg (fun a h => ha a (List.mem_append_left _ h)) fun _ _ => rfl)) (k G' sg hf fun a h => ha a (List.mem_append_right _ h))⟩
        refine (List.Perm.append_left A1 p).trans (List.perm_iff_count.mpr fun z => ?_)
        simp only [List.count_append]; omega
      | kd v2 t0 =>
        refine ⟨Fz, Dr, A1 ++ A', ?_, fun G' sg hf ha => .cons (own_fr (own_of_k h1).2 sg (fun a h => ha a (List.mem_append_left _ h)) fun _ _ => rfl) (k G' sg hf fun a h => ha a (List.mem_append_right _ h))⟩
        refine (List.Perm.append_left A1 p).trans (List.perm_iff_count.mpr fun z => ?_)
        simp only [List.count_append]; omega
      | u =>
        refine ⟨Fz, A1 ++ Dr, A', ?_, fun G' sg hf ha => OwnA.cons (A := []) (.u _ _) (k G' sg hf ha)⟩
        refine (List.Perm.append_left A1 p).trans (List.perm_iff_count.mpr fun z => ?_)
        simp only [List.count_append]; omega
      | f C ns ts hno =>
        refine ⟨A1 ++ Fz, Dr, A', ?_, fun G' sg hf ha => ?_⟩
        · rw [List.append_assoc]; exact List.Perm.append_left A1 p
        · cases h1 with
          | @o _ dx a _ _ fs ds Ai ga gd ha1 hdx hn oi =>
            have oi2 : OwnA K G H ts ds ((fs.map (·.2)).map some) Ai := by rw [List.map_map]; exact oi
            have q := frz_allT sg oi2 (fun b hb => hf b (List.mem_append_left _ (List.mem_cons_of_mem _ (List.mem_cons_of_mem _ hb)))) hno
            exact OwnA.cons (A := []) (.f (by rw [hf a (List.mem_append_left _ (List.mem_cons_self ..))]; exact ha1) hn q) (k G' sg (fun b h => hf b (List.mem_append_right _ h)) ha)
      | s _ hno =>
        refine ⟨A1 ++ Fz, Dr, A', ?_, fun G' sg hf ha => ?_⟩
        · rw [List.append_assoc]; exact List.Perm.append_left A1 p
        · obtain ⟨x, hx, q⟩ := own_frz h1 sg (fun a h => hf a (List.mem_append_left _ h)) hno
          subst hx
          exact OwnA.cons (A := []) (.s q) (k G' sg (fun a h => hf a (List.mem_append_right _ h)) ha)
theorem stt_le {m m' : List Ty} (l : LeM m m') {e : En} {σ : St} {A : List Addr} (st : Stt K m G H σ e A) : ∃ G' A', Step A G H A' G' H ∧ Stt K m' G' H σ e A' := by
  obtain ⟨Fz, Dr, A', p, k⟩ := ownA_le l st.own
  have nd := p.nodup_iff.mp st.nd
  have inA : ∀ a, a ∈ Fz → a ∈ A := fun a h => p.mem_iff.mpr (List.mem_append_left _ h)
  have inA' : ∀ a, a ∈ A' → a ∈ A := fun a h => p.mem_iff.mpr (List.mem_append_right _ (List.mem_append_right _ h))
  have sg : Same G (lay G H Fz) := fun b x hx => by
    by_cases q : b ∈ Fz
    · rw [(ownA_at st.own b (inA b q)).1] at hx; cases hx
    · rw [lay_out q]; exact hx
  have dis : ∀ a ∈ A', a ∉ Fz := fun a ha hb => (List.nodup_append.mp nd).2.2 a hb a (List.mem_append_right _ ha) rfl
  refine ⟨lay G H Fz, A', ⟨sg, fun a o h _ => h, fun a ha => .inl (inA' a ha), fun a h1 ⟨o, h2⟩ => ?_⟩, ⟨k _ sg (fun a ha => lay_in ha) fun a ha => ?_, (List.nodup_append.mp (List.nodup_append.mp nd).2.1).2.1, fun b x hx => ?_⟩⟩
  · by_cases q : a ∈ Fz
    · exact .inl (inA a q)
    · rw [lay_out q, h1] at h2; cases h2
  · rw [lay_out (dis a ha)]; exact (ownA_at st.own a (inA' a ha)).1
  · by_cases q : b ∈ Fz
    · rw [lay_in q] at hx; exact hx
    · rw [lay_out q] at hx; exact st.sub b x hx
end
abbrev DFn := List PyData → Option (PyData × List PyData)
def spD (K : PySem.W.Frag) (ptys : List Ty) (rty : Ty) (Fn : DFn) : Sp := fun vs H Q _ =>
  ∃ (ds : List PyData) (d : PyData) (fs : List PyData) (G : Hp) (A : List Addr), Fn ds = some (d, fs) ∧ OwnA K G H ptys ds (vs.map some) A ∧ A.Nodup ∧ Same G H ∧
    ∀ (G' H' : Hp) (v : V) (Av A' : List Addr), Step A G H (Av ++ A') G' H' → OwnA K G' H' ptys fs (vs.map some) A' → Own K G' H' rty d (some v) Av → (Av ++ A').Nodup → Same G' H' → Q v H'
structure FnG (P : Program) (w : World) (K : PySem.W.Frag) (mg : Str → Option Value) (base : Heap) (k : Nat) (f : Addr) (fd : FuncData) (ps : List Str) (sp : Sp) : Prop where
  len : ∀ vs H Q E, sp vs H Q E → vs.length = ps.length
  run : ∀ (A : Around) (outer : List Env) (s : Shared) (H : Hp) (args : Args) (us : List Value) (vs : List V) (Q : VK) (E : XK), Room k A → A.guards = some [] → Env0 P w K mg base A outer s H → BindsTo s fd args (ps.zip us) → Vals vs us → sp vs H Q E →
    codeAny (model P w) A (.call (.ref f) args) (CR CX0 outer P w H s Q E) s
structure CalG (P : Program) (w : World) (K : PySem.W.Frag) (mg : Str → Option Value) (base : Heap) (k : Nat) (x : Str) (ptys : List Ty) (rty : Ty) (Fn : DFn) : Prop where
  ex : ∃ (f : Addr) (fd : FuncData) (ps : List Str), FnG P w K mg base k f fd ps (spD K ptys rty Fn) ∧ mg x = some (.ref f) ∧ PySem.W.keepIn K (.ref f) = true ∧ Binds K fd ps []
class FamG {ι : Type} (Xf : ι → Cx) : Prop where
  gd : ∀ i, (Xf i).A.guards = some []
  calm : ∀ i, (Xf i).calm = true
  hd : ∀ i, (Xf i).A.handled = none
theorem rmOf {ι : Type} {Xf : ι → Cx} {P : Program} {w : World} {K : PySem.W.Frag} {mg : Str → Option Value} {base : Heap} {n : Nat} (F : Fam Xf P w K mg base n) (FG : FamG Xf) (i : ι) : Room n (Xf i).A := ⟨FG.hd i, (F.room i).dp, (F.room i).un⟩
theorem fnG_of {P : Program} {w : World} {K : PySem.W.Frag} {mg : Str → Option Value} {base : Heap} {x qual : Str} {st : Stmt} {f : Addr} {fd : FuncData} {N ps : List Str} {k : Nat} {sp : Sp} (F : L2.Fun K x qual st f fd) (S : FnScope N ps (defScope st)) (len : ∀ vs H Q E, sp vs H Q E → vs.length = ps.length)
    (hbody : ∀ (cdv : Value) (A : Around) (outer : List Env) (s : Shared) (H : Hp) (vs : List V) (Q : VK) (E : XK), Room k (A.deeper (PyProof.Rows.envOfC qual (defScope st) s.heap.objs.size f cdv)) → (A.deeper (PyProof.Rows.envOfC qual (defScope st) s.heap.objs.size f cdv)).guards = some [] → sp vs H Q E →
      ∃ t, PSs (cxOf CX0 P w K mg base N qual (defScope st) f cdv A outer s H E).nox (defBody st) t ∧ t { nx := fun _ H' => Q .non H', rt := Q } (start N vs) H) : FnG P w K mg base (k + 1) f fd ps sp := by
  obtain ⟨oc, od, kV, doc, pm, an, cdv, ct, osl, rfl, lk, hcd⟩ := F.ex
  refine ⟨len, fun A outer s H args us vs Q E room gd e0 bind rel wish => ?_⟩
  have KX : K.In s.heap := e0.mod.kin.keeps fun b o e => (e0.bs b o e).1
  obtain ⟨t, bt, bq⟩ := hbody cdv A outer s H vs Q E (room.deeper _) gd wish
  have kinds : ∀ y ∈ ps.zip us, (defScope st).names.lookup y.1 = some .local ∨ ((defScope st).names.lookup y.1 = some .cell ∧ ((cellsFrom (s.heap.objs.size + 1) (defScope st).names []).lookup y.1).isSome = true) := by
    rintro ⟨nm, val⟩ hy
    have hp := S.par nm (List.of_mem_zip hy).1
    exact hp.imp id fun c => ⟨c, PySem.W.cellsFrom_some _ _ _ (.inl c)⟩
  refine codeAny_call_function room.depth (KX _ _ lk) rfl S.co S.gen rfl (PySem.W.codeRec_of KX hcd) (bind _ _ _ _ ?_)
  refine wpAny_newFunctionEnv_cells S.kind kinds fun env he s1 ic => ?_
  subst he
  have lim := e0.mod.nolimit.keeps fun b o e => (e0.bs b o e).1
  refine ⟨Heap.NoLimit.keeps lim ic.toInCall.keep, codeAny_func ?_⟩
  have I0 := inv_start (CX := CX0) (E := E) S room.hd e0 (len _ _ _ _ wish) rel ic
  refine wpAny_mono (bt.nox.run [] s1 _ H _ I0 bq) ?_ fun e s' z => z
  intro fl s' z
  cases fl with
  | ret u => obtain ⟨v, σ', H', J, rv, q⟩ := z; exact ⟨v, H', J.os, J.bare, J.base, J.hok, rv, q⟩
  | next => obtain ⟨σ', H', J, q⟩ := z; exact ⟨V.non, H', J.os, J.bare, J.base, J.hok, rfl, q⟩
  | brk => obtain ⟨_, _, _, q⟩ := z; exact q.elim
  | cont => obtain ⟨_, _, _, q⟩ := z; exact q.elim
def eCall (Fn : DFn) (r : Lf) : Ef := fun e => (r e).bind fun p => (Fn p.1).bind fun q => some (q.1, p.2)
def eCallL (Fn : DFn) (k j : Nat) (r : Lf) : Ef := fun e => (r e).bind fun p => (Fn (p.1.set k (p.2.getD j .none))).bind fun q => some (q.1, p.2.set j (q.2.getD k .none))
section
variable {ι : Type} {Xf : ι → Cx} {P : Program} {w : World} {K : PySem.W.Frag} {mg : Str → Option Value} {base : Heap} {n : Nat} [F : Fam Xf P w K mg base n] [FG : FamG Xf]
variable {m m1 m2 m3 : List Ty} {pos p p2 : Pos} {a b c : Expr} {es : List Expr} {f g h : Ef} {fr : Lf} {ty : Ty} {tys : List Ty} {L : List (Option Nat)}
theorem run_fnG {X : Cx} {k : Nat} {fa : Addr} {fd : FuncData} {ps : List Str} {sp : Sp} {pins : List (Addr × Obj)} {σ : St} {H : Hp} {s : Shared} {Q : VK} {E : XK} {us : List Value} {vs : List V} (Fn : FnG X.prog X.w X.K X.mg X.base k fa fd ps sp) (hr : Room k X.A) (hg : X.A.guards = some []) (hb : Binds X.K fd ps [])
    (I : L2.Inv X pins σ H s) (r : Vals vs us) (h : sp vs H Q E) : wpAny (model X.prog X.w) X.A (call (.ref fa) us) (EP X pins σ Q) X.xe s := by
  have hl : (us ++ []).length = ps.length := by rw [List.append_nil, ← r.length]; exact Fn.len _ _ _ _ h
  have hb' := hb s us I.kIn hl
  rw [List.append_nil] at hb'
  refine wpAny_call (codeAny_mono (Fn.run X.A X.stack s H ⟨us, []⟩ us vs Q E hr hg I.env0 hb' r h) ?_)
  intro z s' hq
  match z, hq with
  | .ok (.ret u), hq => exact I.after hq
  | .error e, hq => exact False.elim hq
  | .ok .next, hq => exact False.elim hq
  | .ok .brk, hq => exact False.elim hq
  | .ok .cont, hq => exact False.elim hq
def tCallG (sp : Sp) (t : TA) : TE := fun σ H Q => t σ H fun vs H1 => sp vs H1 Q fun _ _ _ => False
include F FG in
theorem pe_callG {k : Nat} {x : Str} {rty : Ty} {Fn : DFn} (c : CalG P w K mg base k x tys rty Fn) (hk : k ≤ n) (i : ι) {t : TA} (hg : Gl (Xf i) x) (ha : PA (Xf i) (a :: es) t)
    (hdb : (x == ("__debug__" : Str)) = false := by decide) (he : starEach (a :: es) (Xf i).env = (false, eval a (Xf i).env) :: starEach es (Xf i).env := by rfl) (hpl : (backTo pos (starEach es (Xf i).env)).any (·.1) = false := by rfl) :
    PE (Xf i) (.Call (.Name x p) (a :: es) [] pos) (tCallG (spD K tys rty Fn) t) := by
  obtain ⟨fa, fd, ps, FN, hm, kp, b⟩ := c.ex
  have e1 := F.prog i
  have e2 := F.w_ i
  have e3 := F.kk i
  have e4 := F.mg_ i
  have e5 := F.base_ i
  refine ⟨fun pins s σ H Q I h => ?_⟩
  refine wpAny_Call_Name_kw (ld_glob I hg (by rw [e4]; exact hm) ?_ hdb)
  refine PySem.W.callWith_K (h₀ := (Xf i).base) I.ok.mod.kin (by rw [e3]; exact kp) (thn (ha.run pos pins s σ H _ I h) fun us s1 ⟨vs, H1, I1, r1, q1⟩ => ⟨I1.kIn, ?_⟩) he hpl
  subst e1 e2 e3 e4 e5
  exact run_fnG FN ((rmOf F FG i).mono hk) (FG.gd i) b I1 r1 q1
include F FG in
theorem pd_call {k : Nat} {x : Str} {rty : Ty} {Fn : DFn} (c : CalG P w K mg base k x tys rty Fn) (ha : PAL Xf K m (a :: es) tys L fr m1) (hk : k ≤ n := by decide) (hg : ∀ i, Gl (Xf i) x := by intro _; rfl)
    (hdb : (x == ("__debug__" : Str)) = false := by decide) (he : ∀ i, starEach (a :: es) (Xf i).env = (false, eval a (Xf i).env) :: starEach es (Xf i).env := by intro _; rfl) (hpl : ∀ i, (backTo pos (starEach es (Xf i).env)).any (·.1) = false := by intro _; rfl) :
    PD Xf K m (.Call (.Name x p) (a :: es) [] pos) rty (eCall Fn fr) m1 := by
  obtain ⟨ta, pa, da⟩ := ha.ex
  refine ⟨_, fun i => pe_callG c hk i (hg i) (pa i) hdb (he i) (hpl i), fun {G H σ e A d e' Q} st hf k' => ?_⟩
  unfold eCall at hf
  obtain ⟨⟨ds, e1⟩, hf1, hf⟩ := oBs hf
  obtain ⟨⟨d1, fs⟩, hf2, hf⟩ := oBs hf
  cases hf
  refine da st hf1 fun G1 H1 vs A1 B1 s1 st1 o1 nd1 _ => ?_
  have nd := List.nodup_append.mp nd1
  refine ⟨ds, _, fs, G1, A1, hf2, o1, nd.1, st1.sub, fun G2 H2 v Av A2 s2 o2 ov nd2 sub2 => ?_⟩
  -- the state's own objects are kept aside
  have nd1' : (B1 ++ A1).Nodup := List.nodup_append.mpr ⟨nd.2.1, nd.1, fun a ha b hb z => nd.2.2 b hb a ha z.symm⟩
  have s1' : Step A G H (B1 ++ A1) G1 H1 := ⟨s1.sg, s1.fr, fun a ha => s1.own a ((List.mem_append.mp ha).elim (fun z => List.mem_append_right _ z) fun z => List.mem_append_left _ z), s1.gnew⟩
  obtain ⟨s3, nd3, hg', hh'⟩ := s1'.seq (ownA_at st1.own) nd1' s2 nd2
  have n3 := List.nodup_append.mp nd3
  have n4 := List.nodup_append.mp n3.2.1
  have st2 : Stt K m1 G2 H2 σ e1 B1 := ⟨ownA_fr st1.own s2.sg hg' hh', st1.nd, sub2⟩
  refine k' G2 H2 v Av B1 (s3.less fun a ha => ?_) st2 ov ?_
  · rcases List.mem_append.mp ha with z | z
    · exact List.mem_append_right _ (List.mem_append_left _ z)
    · exact List.mem_append_left _ z
  · exact List.nodup_append.mpr ⟨n4.1, n3.1, fun a ha b hb z => n3.2.2 b hb a (List.mem_append_left _ ha) z.symm⟩
include F FG in
theorem pd_callL {k kk j : Nat} {x : Str} {rty t : Ty} {Fn : DFn} (c : CalG P w K mg base k x tys rty Fn) {tys' : List Ty} (ha : PAL Xf K m (a :: es) tys' L fr m1) (hm : m1[j]? = some t := by rfl) (hL : L[kk]? = some (some j) := by rfl) (hu : tys'[kk]? = some .u := by rfl) (ht : tys'.set kk t = tys := by rfl)
    (hk : k ≤ n := by decide) (hg : ∀ i, Gl (Xf i) x := by intro _; rfl)
    (hdb : (x == ("__debug__" : Str)) = false := by decide) (he : ∀ i, starEach (a :: es) (Xf i).env = (false, eval a (Xf i).env) :: starEach es (Xf i).env := by intro _; rfl) (hpl : ∀ i, (backTo pos (starEach es (Xf i).env)).any (·.1) = false := by intro _; rfl) :
    PD Xf K m (.Call (.Name x p) (a :: es) [] pos) rty (eCallL Fn kk j fr) m1 := by
  obtain ⟨ta, pa, da⟩ := ha.ex
  refine ⟨_, fun i => pe_callG c hk i (hg i) (pa i) hdb (he i) (hpl i), fun {G H σ e A d e' Q} st hf k' => ?_⟩
  unfold eCallL at hf
  obtain ⟨⟨ds, e1⟩, hf1, hf⟩ := oBs hf
  obtain ⟨⟨d1, fs⟩, hf2, hf⟩ := oBs hf
  cases hf
  refine da st hf1 fun G1 H1 vs A1 B1 s1 st1 o1 nd1 lk => ?_
  obtain ⟨dj, vj, Aj, B0, h1, h2, h3, h4, hp⟩ := ownA_take st1.own hm
  obtain ⟨v0, hv0, hs0⟩ := lk kk j hL
  have hvj : vj = some v0 := by rw [hs0] at h2; exact (Option.some.inj h2).symm
  subst hvj
  obtain ⟨A2, o2, p2⟩ := ownA_put o1 hu h3
  rw [ht] at o2
  have hvs : (vs.map some).set kk (some v0) = vs.map some := set_id (by rw [List.getElem?_map, hv0]; rfl)
  rw [hvs] at o2
  have ed : e1.getD j .none = dj := by rw [List.getD_eq_getElem?_getD, h1]; rfl
  rw [ed] at hf2
  have nd := List.nodup_append.mp nd1
  have ndB := List.nodup_append.mp (hp.nodup_iff.mp nd.2.1)
  -- what the callee holds; what is kept aside
  have pall : (A1 ++ B1).Perm (B0 ++ A2) := by
    refine (List.Perm.append_left A1 hp).trans ?_
    refine List.Perm.trans ?_ (List.Perm.append_left B0 p2.symm)
    rw [← List.append_assoc]
    refine List.perm_append_comm.trans (List.Perm.append_left B0 List.perm_append_comm)
  have nd2 : (B0 ++ A2).Nodup := pall.nodup_iff.mp nd1
  have n2 := List.nodup_append.mp nd2
  refine ⟨ds.set kk dj, _, fs, G1, A2, hf2, o2, n2.2.1, st1.sub, fun G2 H2 v Av A3 s2 o3 ov nd3 sub2 => ?_⟩
  have s1' : Step A G H (B0 ++ A2) G1 H1 := ⟨s1.sg, s1.fr, fun a ha => s1.own a (pall.mem_iff.mpr ha), s1.gnew⟩
  obtain ⟨s3, nd4, hg', hh'⟩ := s1'.seq (ownA_at h4) nd2 s2 nd3
  have n4 := List.nodup_append.mp nd4
  have n5 := List.nodup_append.mp n4.2.1
  have o0 := ownA_fr h4 s2.sg hg' hh'
  have hkk : tys[kk]? = some t := by
    rw [← ht]
    have := (List.getElem?_eq_some_iff.mp hu).1
    simp [this]
  obtain ⟨df, vf, Af, A4, g1, g2, g3, g4, gp⟩ := ownA_take o3 hkk
  have hvf : vf = some v0 := by rw [List.getElem?_map, hv0] at g2; exact (Option.some.inj g2).symm
  subst hvf
  have hj : (m1.set j .u)[j]? = some .u := by
    have := (List.getElem?_eq_some_iff.mp hm).1
    simp [this]
  obtain ⟨B2, o4, p4⟩ := ownA_put o0 hj g3
  rw [List.set_set, set_id hm, set_id h2] at o4
  have ef : fs.getD kk .none = df := by rw [List.getD_eq_getElem?_getD, g1]; rfl
  rw [ef] at k'
  have gn := List.nodup_append.mp (gp.nodup_iff.mp n5.2.1)
  have inA3 : ∀ a, a ∈ Af → a ∈ A3 := fun a h => gp.mem_iff.mpr (List.mem_append_left _ h)
  have ndB2 : B2.Nodup := p4.nodup_iff.mpr (List.nodup_append.mpr ⟨gn.1, n4.1, fun a ha b hb z => n4.2.2 b hb a (List.mem_append_right _ (inA3 a ha)) z.symm⟩)
  have inB2 : ∀ a, a ∈ B2 → a ∈ Af ∨ a ∈ B0 := fun a h => List.mem_append.mp (p4.mem_iff.mp h)
  have st2 : Stt K m1 G2 H2 σ (e1.set j df) B2 := ⟨o4, ndB2, sub2⟩
  refine k' G2 H2 v Av B2 (s3.less fun a ha => ?_) st2 ov ?_
  · rcases List.mem_append.mp ha with z | z
    · exact List.mem_append_right _ (List.mem_append_left _ z)
    · rcases inB2 a z with z | z
      · exact List.mem_append_right _ (List.mem_append_right _ (inA3 a z))
      · exact List.mem_append_left _ z
  · refine List.nodup_append.mpr ⟨n5.1, ndB2, fun a ha b hb z => ?_⟩
    subst z
    rcases inB2 a hb with z | z
    · exact n5.2.2 a ha a (inA3 a z) rfl
    · exact n4.2.2 a z a (List.mem_append_left _ ha) rfl
end
end DL
namespace DL
open PySem L2 PySem.Spec
theorem bt_len : bootBuiltins "len" = some (.builtin "len") := by decide +kernel
theorem bt_tuple : bootBuiltins "tuple" = some (.type "tuple") := by decide +kernel
theorem bt_int : bootBuiltins "int" = some (.type "int") := by decide +kernel
theorem bt_str : bootBuiltins "str" = some (.type "str") := by decide +kernel
theorem bt_bool : bootBuiltins "bool" = some (.type "bool") := by decide +kernel
theorem bt_sorted : bootBuiltins "sorted" = some (.builtin "sorted") := by decide +kernel
theorem bt_all : bootBuiltins "all" = some (.builtin "all") := by decide +kernel
theorem bt_any : bootBuiltins "any" = some (.builtin "any") := by decide +kernel
theorem bt_abs : bootBuiltins "abs" = some (.builtin "abs") := by decide +kernel
theorem bt_repr : bootBuiltins "repr" = some (.builtin "repr") := by decide +kernel
theorem bt_isinstance : bootBuiltins "isinstance" = some (.builtin "isinstance") := by decide +kernel
def gLen : PyData → Option PyData
  | .list xs => some (.int xs.length)
  | .tuple xs => some (.int xs.length)
  | .str z => some (.int z.length)
  | _ => none
def gTuple : PyData → Option PyData
  | .list xs => some (.tuple xs)
  | .tuple xs => some (.tuple xs)
  | _ => none
def gList : PyData → Option PyData
  | .list xs => some (.list xs)
  | .tuple xs => some (.list xs)
  | _ => none
def intsOf : List PyData → Option (List Int)
  | [] => some []
  | .int i :: r => (intsOf r).map (i :: ·)
  | _ :: _ => none
def gAll : PyData → Option PyData
  | .list xs => if PyData.plainAll xs = true then some (.bool (xs.all PyData.truthy)) else none
  | .tuple xs => if PyData.plainAll xs = true then some (.bool (xs.all PyData.truthy)) else none
  | _ => none
def gAny : PyData → Option PyData
  | .list xs => if PyData.plainAll xs = true then some (.bool (xs.any PyData.truthy)) else none
  | .tuple xs => if PyData.plainAll xs = true then some (.bool (xs.any PyData.truthy)) else none
  | _ => none
def gAbs : PyData → Option PyData
  | .int i => some (.int (if i < 0 then -i else i))
  | _ => none
def sortOk (xs : List PyData) : Bool := xs.all (fun x => xs.all fun y => PySem.W.alike x y) && (xs.all (fun x => match x with | .tuple (_ :: _) => true | _ => false) || xs.all (fun x => match x with | .none => false | .tuple _ => false | _ => true)) && decide (PyData.depthAll xs ≤ 60)
def gSorted : PyData → Option PyData
  | .list xs => if sortOk xs = true then some (.list (xs.mergeSort (PySem.W.dataLe false id))) else none
  | .tuple xs => if sortOk xs = true then some (.list (xs.mergeSort (PySem.W.dataLe false id))) else none
  | _ => none
def gRepr (d : PyData) : Option PyData := if d.showable = true ∧ d.depth ≤ 58 ∧ d.shown.length ≤ sizeLine then some (.str d.shown) else none
section
variable {ι : Type} {Xf : ι → Cx} {P : Program} {w : World} {K : PySem.W.Frag} {mg : Str → Option Value} {base : Heap} {n : Nat} [F : Fam Xf P w K mg base n]
include F
theorem pd_b1 {m m1 : List Ty} {pos p : Pos} {a : Expr} {f : Ef} {x : Str} {id : String} {ty : Ty} {gg : PyData → Option PyData} (hc : Cl1 Xf K (.builtin id) ty gg) (hm : mg x = none) (hv : bootBuiltins x = some (.builtin id)) (ha : PD Xf K m a .s f m1) (hg : ∀ i, Gl (Xf i) x := by intro _; rfl)
    (hn : x ≠ "__name__" := by decide) (hdb : (x == ("__debug__" : Str)) = false := by decide) (he : ∀ i, starEach [a] (Xf i).env = (false, eval a (Xf i).env) :: starEach [] (Xf i).env := by intro _; rfl) (hpl : ∀ i, (backTo pos (starEach [] (Xf i).env)).any (·.1) = false := by intro _; rfl) :
    PD Xf K m (.Call (.Name x p) [a] [] pos) ty (e1 gg f) m1 := by
  obtain ⟨r, hr, dr⟩ := hc.ex
  obtain ⟨ta, pa, da⟩ := ha.ex
  exact ⟨_, fun i => pe_callB (hr i) (hg i) (by rw [F.mg_ i]; exact hm) hv (pa_cons (pa i) pa_nil (he i)) hn hdb (he i) (hpl i), DE.un da dr⟩
theorem pd_t1 {m m1 : List Ty} {pos p : Pos} {a : Expr} {f : Ef} {x : Str} {T : String} {ty : Ty} {gg : PyData → Option PyData} (hc : Cl1 Xf K (.type T) ty gg) (hm : mg x = none) (hv : bootBuiltins x = some (.type T)) (ha : PD Xf K m a .s f m1) (hg : ∀ i, Gl (Xf i) x := by intro _; rfl)
    (hn : x ≠ "__name__" := by decide) (hdb : (x == ("__debug__" : Str)) = false := by decide) (he : ∀ i, starEach [a] (Xf i).env = (false, eval a (Xf i).env) :: starEach [] (Xf i).env := by intro _; rfl) (hpl : ∀ i, (backTo pos (starEach [] (Xf i).env)).any (·.1) = false := by intro _; rfl) :
    PD Xf K m (.Call (.Name x p) [a] [] pos) ty (e1 gg f) m1 := by
  obtain ⟨r, hr, dr⟩ := hc.ex
  obtain ⟨ta, pa, da⟩ := ha.ex
  exact ⟨_, fun i => pe_callTy (hr i) (hg i) (by rw [F.mg_ i]; exact hm) hv (pa_cons (pa i) pa_nil (he i)) hn hdb (he i) (hpl i), DE.un da dr⟩
theorem kkC {r : PySem.W.Frag → List V → Hp → VK → Prop} {f : Value} (h : ∀ X : Cx, CallR X f (r X.K)) (i : ι) : CallR (Xf i) f (r K) := by
  have := h (Xf i)
  rw [F.kk i] at this
  exact this
theorem clLen : Cl1 Xf K (.builtin "len") .s gLen := by
  refine ⟨_, fun i => CallR.or (kkC (r := fun K xs H Q => ∃ p ys, xs = [.ref p] ∧ (SqL K H p ys ∨ SqT K H p ys) ∧ Q (.int ys.length) H) (fun X => call_len_seq) i) call_len_str, fun {m G H σ e A x dx d Q} st hx ee k => ?_⟩
  cases dx with
  | list ds =>
    cases ee
    obtain ⟨a, xs, rfl, r1, z1, q1⟩ := dq_lst hx
    exact .inl ⟨a, xs, rfl, .inl (.inl (same_rd st.sub r1)), by rw [q1.1]; exact ans_s st (.int _) k⟩
  | tuple ds =>
    cases ee
    obtain ⟨a, xs, rfl, r1, z1, q1⟩ := dq_tup hx
    exact .inl ⟨a, xs, rfl, .inr (same_seqT st.sub r1), by rw [q1.1]; exact ans_s st (.int _) k⟩
  | str z =>
    cases ee
    obtain ⟨rfl, z1⟩ := dq_str hx
    exact .inr ⟨_, rfl, z1, ans_s st (.int _) k⟩
  | _ => cases ee
theorem clTuple : Cl1 Xf K (.type "tuple") .s gTuple := by
  refine ⟨_, fun i => kkC (r := fun K xs H Q => ∃ p ys, xs = [.ref p] ∧ ((SqL K H p ys ∧ NewT H ys Q) ∨ (SqT K H p ys ∧ Q (.ref p) H))) (fun X => call_tuple_ofN) i, fun {m G H σ e A x dx d Q} st hx ee k => ?_⟩
  cases dx with
  | list ds =>
    cases ee
    obtain ⟨a, xs, rfl, r1, z1, q1⟩ := dq_lst hx
    exact ⟨a, xs, rfl, .inl ⟨.inl (same_rd st.sub r1), ans_tup st q1 z1 k⟩⟩
  | tuple ds =>
    cases ee
    obtain ⟨a, xs, rfl, r1, z1, q1⟩ := dq_tup hx
    exact ⟨a, xs, rfl, .inr ⟨same_seqT st.sub r1, ans_s st hx k⟩⟩
  | _ => cases ee
def rSeqS (K : PySem.W.Frag) (gg : PyData → Option PyData) : List V → Hp → VK → Prop := fun vs H Q => ∃ x dx d v, vs = [x] ∧ Dq K H x dx ∧ gg dx = some d ∧ scV d = some v ∧ Q v H
omit F in
theorem d1SeqS {gg : PyData → Option PyData} (hg : ∀ a d, gg a = some d → ∃ v, scV d = some v) : D1 K (fun x => rSeqS K gg [x]) .s gg := fun {m G H σ e A x dx d Q} st hx ee k => by
  obtain ⟨v, hv⟩ := hg _ _ ee
  exact ⟨x, dx, d, v, rfl, hx.mono st.sub, ee, hv, ans_s st (scV_dq hv) k⟩
omit F in
theorem fits_all {G : Hp} {xs : List V} {ds : List PyData} (q : DqA K G xs ds) : ∀ x ∈ ds, x.fits63 := fun x hx => fits_of (dq_mem q hx).choose_spec
theorem clAll [FG : FamG Xf] : Cl1 Xf K (.builtin "all") .s gAll := by
  refine ⟨rSeqS K gAll, fun i => ?_, d1SeqS fun a d e => ?_⟩
  · intro pins s σ H vs us Q I r h
    obtain ⟨x, dx, d, z, rfl, hx, e, hz, q⟩ := h
    rw [← F.kk i] at hx
    cases dx with
    | list ds =>
      obtain ⟨pl, rfl⟩ := ite_some e
      obtain ⟨a, xs, rfl, r1, z1, q1⟩ := dq_lst hx
      rw [Vals.ref1 r]
      obtain ⟨its, rv, hL, _⟩ := I.list (.inl r1)
      obtain ⟨as, hr⟩ := q1.reads I (plainAll_noOb _ pl) rv
      exact PySem.W.all_list_data (I.ok.hd (FG.calm i)) hL.isList hr pl (fits_all q1) fun h' tk hk => boolE (I.kept hk) hz q
    | tuple ds =>
      obtain ⟨pl, rfl⟩ := ite_some e
      obtain ⟨a, xs, rfl, r1, z1, q1⟩ := dq_tup hx
      rw [Vals.ref1 r]
      obtain ⟨its, rv, hL, _⟩ := I.tuple r1
      obtain ⟨as, hr⟩ := q1.reads I (plainAll_noOb _ pl) rv
      exact PySem.W.all_tuple_data (I.ok.hd (FG.calm i)) hL hr pl (fits_all q1) fun h' tk hk => boolE (I.kept hk) hz q
    | _ => cases e
  · unfold gAll at e; split at e <;> first | (obtain ⟨_, rfl⟩ := ite_some e; exact ⟨_, rfl⟩) | cases e
theorem clAny [FG : FamG Xf] : Cl1 Xf K (.builtin "any") .s gAny := by
  refine ⟨rSeqS K gAny, fun i => ?_, d1SeqS fun a d e => ?_⟩
  · intro pins s σ H vs us Q I r h
    obtain ⟨x, dx, d, z, rfl, hx, e, hz, q⟩ := h
    rw [← F.kk i] at hx
    cases dx with
    | list ds =>
      obtain ⟨pl, rfl⟩ := ite_some e
      obtain ⟨a, xs, rfl, r1, z1, q1⟩ := dq_lst hx
      rw [Vals.ref1 r]
      obtain ⟨its, rv, hL, _⟩ := I.list (.inl r1)
      obtain ⟨as, hr⟩ := q1.reads I (plainAll_noOb _ pl) rv
      exact PySem.W.any_list_data (I.ok.hd (FG.calm i)) hL.isList hr pl (fits_all q1) fun h' tk hk => boolE (I.kept hk) hz q
    | tuple ds =>
      obtain ⟨pl, rfl⟩ := ite_some e
      obtain ⟨a, xs, rfl, r1, z1, q1⟩ := dq_tup hx
      rw [Vals.ref1 r]
      obtain ⟨its, rv, hL, _⟩ := I.tuple r1
      obtain ⟨as, hr⟩ := q1.reads I (plainAll_noOb _ pl) rv
      exact PySem.W.any_tuple_data (I.ok.hd (FG.calm i)) hL hr pl (fits_all q1) fun h' tk hk => boolE (I.kept hk) hz q
    | _ => cases e
  · unfold gAny at e; split at e <;> first | (obtain ⟨_, rfl⟩ := ite_some e; exact ⟨_, rfl⟩) | cases e
omit F in
theorem ints_eq : ∀ {xs : List PyData} {ns : List Int}, intsOf xs = some ns → xs = ns.map .int
  | [], ns, h => by cases h; rfl
  | .int i :: r, ns, h => by
    obtain ⟨ms, h1, rfl⟩ := Option.map_eq_some_iff.mp (show (intsOf r).map (i :: ·) = some ns from h)
    rw [ints_eq h1]; rfl
omit F in
theorem dqA_ints {G : Hp} : ∀ {vs : List V} {ns : List Int}, DqA K G vs (ns.map .int) → vs = ns.map .int
  | [], [], _ => rfl
  | v :: vs, n :: ns, q => by
    have h := q.head
    rw [dq_int h, dqA_ints q.tail]; rfl
  | [], _ :: _, q => by have := q.1; simp at this
  | _ :: _, [], q => by have := q.1; simp at this
theorem clAbs : Cl1 Xf K (.builtin "abs") .s gAbs := ⟨_, fun i => call_abs, fun {m G H σ e A x dx d Q} st hx ee k => by
  cases dx with
  | int i =>
    cases ee
    obtain rfl := dq_int hx
    exact ⟨i, rfl, ans_s st (.int _) k⟩
  | _ => cases ee⟩
end
end DL
namespace DL
open PySem L2 PySem.Spec
theorem bt_enumerate : bootBuiltins "enumerate" = some (.type "enumerate") := by decide +kernel
set_option maxHeartbeats 8000000 in
theorem meets_enum1 {v : Value} {o : Obj} {H : Heap → Prop} (B : Begins v o H) :
    Meets (Builtin.«enumerate.__new__» ⟨[.type "enumerate", v], []⟩) (fun _ R s => H s.heap ∧
      R (.ok (.ret (.ref (s.heap.push o).objs.size))) { s with heap := (s.heap.push o).push { cls := .type "enumerate", data := .fields #[.none, .bool false, .ref s.heap.objs.size, rawInt 0, .none, .none] } }) :=
  .of_wp fun prog w A R s hh => by
    obtain ⟨hp, g, d, tk, os⟩ := s
    obtain ⟨hb, hr⟩ := hh
    have sube := sub_enumerate
    have beg : ∀ {A' : Around} {E : Value → Shared → Prop} {Q : Value → Shared → Prop}, Q (.ref hp.objs.size) ⟨hp.push o, g, d, tk, os⟩ → wpAny (model prog w) A' (pyIter v) Q E ⟨hp, g, d, tk, os⟩ :=
      fun q => B.iter prog w _ _ _ _ hb q
    wp_walk using beg
    refine wpAny_stack_any fun stk => wpAny_pure ?_
    split
    · rename_i cl _ _ _ _ _
      cases (cl == Value.type "enumerate") <;> (wp_walk using beg; exact ⟨_, rfl, hr⟩)
    · wp_walk using beg
      exact ⟨_, rfl, hr⟩
theorem call_enum1 {prog : Program} {w : World} {A : Around} {E : Value → Shared → Prop} {s : Shared} {v : Value} {o : Obj} {H : Heap → Prop} {Q : Value → Shared → Prop} (B : Begins v o H) (hb : H s.heap)
    (k : ∀ h', IsEnum h' (s.heap.objs.size + 1) s.heap.objs.size 0 .none → h'.get? s.heap.objs.size = some o → (∀ b u, s.heap.get? b = some u → h'.get? b = some u) → Q (.ref (s.heap.objs.size + 1)) { s with heap := h' }) :
    wpAny (model prog w) A (call (.type "enumerate") [v]) Q E s := by
  refine callType_new PySem.F.called_enumerate (by decide) (PySem.F.typeCall_enumerate_1 _) (PySem.F.newCall_enumerate_1 _) (fun obj => PySem.F.args_object_init_2 obj _) PySem.F.entry_enumerate_new (meets_enum1 B) ⟨hb, ?_⟩
  have sz : (s.heap.push o).objs.size = s.heap.objs.size + 1 := Heap.size_push ..
  have at1 : IsEnum ((s.heap.push o).push { cls := .type "enumerate", data := .fields #[.none, .bool false, .ref s.heap.objs.size, rawInt 0, .none, .none] }) (s.heap.push o).objs.size s.heap.objs.size 0 .none := Heap.get?_push_size _ rfl
  show _ ∧ _
  rw [sz] at at1 ⊢
  exact ⟨⟨_, at1, rfl⟩, k _ at1 (Heap.get?_push_of_some _ (Heap.get?_push_size _ B.free)) fun b u q => Heap.get?_push_of_some _ (Heap.get?_push_of_some _ q)⟩
def IteT (K : PySem.W.Frag) (a : Addr) : It where
  go i H := ∃ (xs : List V) (x : V), SqT K H a xs ∧ xs[i]? = some x
  yld i H v H' := ∃ (T : Addr) (x : V), v = .ref T ∧ H T = none ∧ H' = upd H T (.tup [.int (i : Nat), x]) ∧ ∀ xs, SqT K H a xs → xs[i]? = some x
  stop i H := ∃ xs : List V, SqT K H a xs ∧ xs.length = i
theorem turn_enumT {P : Program} {w : World} {K : PySem.W.Frag} {elts : List Expr} {kk : Nat} {tpos : Pos} (a e it : Addr) :
    Turn P w K (.Tuple elts kk tpos) (IteT K a) [e, it] e (fun i h => (∃ old, IsEnum h e it ((i : Nat) : Int) old) ∧ h.IsTupleIter it a i ∧ e ≠ it) where
  mem := List.mem_cons_self ..
  obj i h st b hb := by
    rcases List.mem_cons.mp hb with rfl | hb
    · obtain ⟨old, he⟩ := st.1
      exact ⟨_, he, fun _ z => nomatch z⟩
    · obtain rfl := List.mem_singleton.mp hb
      obtain ⟨o, ho, _, hd⟩ := st.2.1
      exact ⟨o, ho, fun _ z => by rw [hd] at z; cases z⟩
  keep i h h' st k := ⟨st.1.imp fun old he => k e (List.mem_cons_self ..) _ he, st.2.1.at fun o z => k it (List.mem_cons_of_mem _ (List.mem_singleton.mpr rfl)) o z, st.2.2⟩
  item := by
    rintro X rfl rfl rfl calm i pins s σ H E I own ⟨⟨old, he⟩, hit, ne⟩ ⟨xs, x, hq, hx⟩
    obtain ⟨its, rv, tp, _⟩ := I.tuple hq
    obtain ⟨u, hu, ru⟩ := rv.get hx
    have le := Heap.lt_size he
    have li : it < s.heap.objs.size := hit.elim fun o z => Heap.lt_size z.1
    have lt : i < its.toArray.size := by simpa using (List.getElem?_eq_some_iff.mp hu).1
    have ta : a ≠ it := fun z => by
      obtain ⟨o, ho, hc, _⟩ := hit
      obtain ⟨o', ho', hc', _⟩ := tp
      rw [z, ho] at ho'; cases ho'
      rw [hc] at hc'; exact absurd (Value.type.inj hc') (by decide)
    have ea : e ≠ a := fun z => by
      obtain ⟨o', ho', hc', _⟩ := tp
      rw [← z, he] at ho'; cases ho'
      exact absurd (Value.type.inj hc') (by decide)
    have hefp : e ∉ [it, a] := fun z => by
      rcases List.mem_cons.mp z with z | z
      · exact ne z
      · exact ea (List.mem_singleton.mp z)
    refine wpAny_pyNext_enum_itemC (Draws.tuple (A := X.A.in1) (I.ok.hd calm) it a ta its.toArray) he ⟨hit, tp⟩ lt ne hefp fun y h1 tk hy out st1 hT sz kept => ?_
    have hyu : y = u := by
      have : its.toArray[i]? = some u := by simpa using hu
      rw [this] at hy; exact (Option.some.inj hy).symm
    subst hyu
    refine ⟨_, rfl, wpAny_letOwnedTupleGo_enum (s := { s with heap := h1, toks := tk + 1 }) out fun h2 he2 same => ?_⟩
    have T2 : h2.get? s.heap.objs.size = some { cls := .type "tuple", data := .seq #[.int i tk, y] } := (same.2 _ (Nat.ne_of_gt le)).trans hT
    have okT : ObjOk X.prog X.w (upd H s.heap.objs.size (.tup [.int (i : Nat), x])) h2 s.heap.objs.size (.tup [.int (i : Nat), x]) :=
      ⟨by show 2 ≤ sizeLine; decide, [.int i tk, y], .cons ⟨tk, rfl⟩ (.cons ru .nil), ⟨_, T2, rfl, _, rfl⟩⟩
    have J := I.turnedNew (t' := tk + 1) (ch := [e, it]) (h' := h2) (fun b ob hb q => (same.2 b fun z => hb (by rw [z]; exact List.mem_cons_self ..)).trans (kept b ob (fun z => hb (by rw [z]; exact List.mem_cons_self ..)) (fun z => hb (by rw [z]; exact List.mem_cons_of_mem _ (List.mem_singleton.mpr rfl))) q)) own (Nat.le_refl _) okT
    refine ⟨.ref s.heap.objs.size, _, J, rfl, ⟨_, x, rfl, I.hok.fresh (Nat.le_refl _), rfl, fun ys hy' => by rw [I.tuple_inj hy' hq]; exact hx⟩, ⟨⟨y, by rw [show ((i + 1 : Nat) : Int) = (i : Int) + 1 by omega]; exact he2⟩, st1.1.at fun o q => (same.2 it (Ne.symm ne)).trans q, ne⟩, fun b hb => ?_⟩
    have lb : b < s.heap.objs.size := by
      rcases List.mem_cons.mp hb with z | z
      · rw [z]; exact le
      · rw [List.mem_singleton.mp z]; exact li
    rw [upd_ne (Nat.ne_of_lt lb)]
    exact (own b hb).1
  done := by
    rintro X rfl rfl rfl calm i pins s σ H E I own ⟨⟨old, he⟩, hit, ne⟩ ⟨xs, hq, hx⟩
    obtain ⟨its, rv, tp, _⟩ := I.tuple hq
    have ta : a ≠ it := fun z => by
      obtain ⟨o, ho, hc, _⟩ := hit
      obtain ⟨o', ho', hc', _⟩ := tp
      rw [z, ho] at ho'; cases ho'
      rw [hc] at hc'; exact absurd (Value.type.inj hc') (by decide)
    obtain ⟨f0, f1, f2, f3, f4, f5⟩ := own it (List.mem_cons_of_mem _ (List.mem_singleton.mpr rfl))
    have hz : its.toArray.size = i := by have := rv.length; simp; omega
    subst hz
    exact wpAny_pyNext_enum_endD (Draws.tuple (A := X.A.in1) (I.ok.hd calm) it a ta its.toArray) he ⟨hit, tp⟩ fun h' eb => ⟨rfl, I.turned (t' := s.toks) (fun b o hb q => eb b o hb q) f0 f1 f3 f4 f5⟩
  self A i s Q E st q := st.1.elim fun old he => wpAny_pyIter_enum he q
end DL
namespace DL
open PySem L2 PySem.Spec
theorem pi_enumT {X : Cx} {e : Expr} {ta : TA} {p pos tpos : Pos} {elts : List Expr} {kk : Nat} (hg : Gl X "enumerate") (hm : X.mg "enumerate" = none) (ha : PA X [e] ta) (hs : starEach [e] X.env = [(false, eval e X.env)] := by rfl) :
    PI X (.Tuple elts kk tpos) (.Call (.Name "enumerate" p) [e] [] pos) (fun σ H R => ta σ H fun vs H1 => ∃ a xs, vs = [.ref a] ∧ SqT X.K H1 a xs ∧ R (IteT X.K a) H1) := by
  refine ⟨fun pins s σ H R I h => PyProof.Rows.Call_ (ld_blt I hg hm bt_enumerate (PyProof.Rows.callWith_type1 (thn (ha.run pos pins s σ H _ I h) ?_) hs rfl))⟩
  rintro us s1 ⟨vs, H1, I1, r1, a, xs, rfl, hq, q⟩
  rw [Vals.ref1 r1]
  obtain ⟨its, rv, tp, hz⟩ := I1.tuple hq
  refine call_enum1 (begins_tuple a its.toArray) tp fun h' he hit hk => wpAny_pyIter_enum he ?_
  refine ⟨s1.heap.objs.size + 1, [s1.heap.objs.size + 1, s1.heap.objs.size], _, _, H1, rfl, I1.kept (t' := s1.toks) hk, turn_enumT a _ s1.heap.objs.size, ⟨⟨.none, he⟩, ⟨_, hit, rfl, rfl⟩, Nat.succ_ne_self _⟩, fun b hb => ?_, q⟩
  have le : s1.heap.objs.size ≤ b := by
    rcases List.mem_cons.mp hb with z | z
    · rw [z]; exact Nat.le_succ _
    · rw [List.mem_singleton.mp z]; exact Nat.le_refl _
  exact I1.fpOk le (I1.hok.fresh le)
theorem PI.or {X : Cx} {tg iter : Expr} {w1 w2 : TI} (h1 : PI X tg iter w1) (h2 : PI X tg iter w2) : PI X tg iter (fun σ H R => w1 σ H R ∨ w2 σ H R) :=
  ⟨fun pins s σ H R I h => h.elim (h1.run pins s σ H R I) (h2.run pins s σ H R I)⟩
def DqW (wk : Bool) (K : PySem.W.Frag) (G : Hp) (x : V) (d : PyData) : Prop := Dq K G x d ∨ (wk = true ∧ ∃ (a : Addr) (xs : List V) (ds : List PyData), x = .ref a ∧ d = .tuple ds ∧ SqT K G a xs ∧ DqA K G xs ds)
theorem DqW.strong {K : PySem.W.Frag} {G : Hp} {x : V} {d : PyData} (h : DqW false K G x d) : Dq K G x d := by
  rcases h with h | ⟨h, _⟩
  · exact h
  · cases h
theorem dqW_tup {wk : Bool} {K : PySem.W.Frag} {G : Hp} {x : V} {ds : List PyData} (h : DqW wk K G x (.tuple ds)) : ∃ a xs, x = .ref a ∧ SqT K G a xs ∧ DqA K G xs ds := by
  rcases h with h | ⟨_, a, xs, ds', h1, h2, h3, h4⟩
  · obtain ⟨a, xs, h1, h2, _, h3⟩ := dq_tup h
    exact ⟨a, xs, h1, h2, h3⟩
  · cases h2
    exact ⟨a, xs, h1, h3, h4⟩
structure WalkS (K : PySem.W.Frag) (G0 : Hp) (J : It) (ds : List PyData) : Prop where
  goes : ∀ i H, i < ds.length → Same G0 H → J.go i H
  stops : ∀ H, Same G0 H → J.stop ds.length H
  yields : ∀ {i : Nat} {H : Hp} {x : V} {H' : Hp} {m : List Ty} {G : Hp} {σ : St} {e : En} {A : List Addr}, i < ds.length → Same G0 G → Stt K m G H σ e A → J.yld i H x H' →
    ∃ G', Step A G H A G' H' ∧ Stt K m G' H' σ e A ∧ Same G G' ∧ ∀ d, ds[i]? = some d → Dq K G' x d
structure WalkD (K : PySem.W.Frag) (wk : Bool) (G0 : Hp) (J : It) (ds : List PyData) : Prop where
  goes : ∀ i H, i < ds.length → Same G0 H → J.go i H
  stops : ∀ H, Same G0 H → J.stop ds.length H
  yields : ∀ {i : Nat} {H : Hp} {x : V} {H' : Hp} {m : List Ty} {G : Hp} {σ : St} {e : En} {A : List Addr}, i < ds.length → Same G0 G → Stt K m G H σ e A → J.yld i H x H' →
    ∃ G', Step A G H A G' H' ∧ Stt K m G' H' σ e A ∧ Same G G' ∧ ∀ d, ds[i]? = some d → DqW wk K G' x d
theorem WalkS.d {wk : Bool} {K : PySem.W.Frag} {G0 : Hp} {J : It} {ds : List PyData} (h : WalkS K G0 J ds) : WalkD K wk G0 J ds :=
  ⟨h.goes, h.stops, fun hi s st y => by
    obtain ⟨G2, s2, st2, sg, k⟩ := h.yields hi s st y
    exact ⟨G2, s2, st2, sg, fun d hd => .inl (k d hd)⟩⟩
def DI (K : PySem.W.Frag) (wk : Bool) (m : List Ty) (wi : TI) (f : Lf) (m' : List Ty) : Prop :=
  ∀ {G H : Hp} {σ : St} {e : En} {A : List Addr} {ds : List PyData} {e' : En} {R : It → Hp → Prop}, Stt K m G H σ e A → f e = some (ds, e') →
    (∀ (G' H' : Hp) (A' : List Addr) (J : It), Step A G H A' G' H' → Stt K m' G' H' σ e' A' → WalkD K wk G' J ds → ds.length ≤ sizeLine → R J H') → wi σ H R
structure PIt {ι : Type} (Xf : ι → Cx) (K : PySem.W.Frag) (wk : Bool) (m : List Ty) (tg iter : Expr) (f : Lf) (m' : List Ty) : Prop where
  ex : ∃ wi : TI, (∀ i, PI (Xf i) tg iter wi) ∧ DI K wk m wi f m'
section
variable {K : PySem.W.Frag} {G H : Hp} {m : List Ty} {σ : St} {e : En} {A : List Addr}
theorem walkD_list {a : Addr} {xs : List V} {ds : List PyData} (hr : Rd G a (.lst xs)) (q : DqA K G xs ds) : WalkS K G (Itl K a) ds := by
  have l := q.1
  refine ⟨fun i H hi s => ⟨xs, xs[i]'(by omega), .inl (same_rd s hr), List.getElem?_eq_getElem (by omega)⟩, fun H s => ⟨xs, .inl (same_rd s hr), by omega⟩, fun {i H x H' m G' σ e A} hi s st y => ?_⟩
  obtain ⟨rfl, y⟩ := y
  refine ⟨G', Step.refl, st, Same.refl _, fun d hd => ?_⟩
  have hx := y xs (.inl (same_rd (s.trans st.sub) hr))
  exact (q.2 i x d hx hd).mono s
theorem walkD_tup {a : Addr} {xs : List V} {ds : List PyData} (hr : SqT K G a xs) (q : DqA K G xs ds) : WalkS K G (Itt K a) ds := by
  have l := q.1
  refine ⟨fun i H hi s => ⟨xs, xs[i]'(by omega), same_seqT s hr, List.getElem?_eq_getElem (by omega)⟩, fun H s => ⟨xs, same_seqT s hr, by omega⟩, fun {i H x H' m G' σ e A} hi s st y => ?_⟩
  obtain ⟨rfl, y⟩ := y
  refine ⟨G', Step.refl, st, Same.refl _, fun d hd => ?_⟩
  have hx := y xs (same_seqT (s.trans st.sub) hr)
  exact (q.2 i x d hx hd).mono s
def rngD (lo : Int) (n : Nat) : List PyData := (List.range n).map fun i => .int (lo + (i : Nat))
theorem rngD_len (lo : Int) (n : Nat) : (rngD lo n).length = n := by simp [rngD]
theorem walkD_range {lo : Int} {n : Nat} : WalkS K G (Itr lo n) (rngD lo n) := by
  refine ⟨fun i H hi _ => by rw [rngD_len] at hi; exact hi, fun H _ => by rw [rngD_len]; exact Nat.le_refl n, fun {i H x H' m G' σ e A} hi s st y => ?_⟩
  obtain ⟨rfl, rfl⟩ := y
  refine ⟨G', Step.refl, st, Same.refl _, fun d hd => ?_⟩
  rw [rngD_len] at hi
  unfold rngD at hd
  rw [List.getElem?_map, List.getElem?_range hi] at hd
  cases hd
  exact .int _
def enumD : Nat → List PyData → List PyData
  | _, [] => []
  | k, d :: r => .tuple [.int (k : Nat), d] :: enumD (k + 1) r
theorem enumD_len : ∀ (k : Nat) (ds : List PyData), (enumD k ds).length = ds.length
  | _, [] => rfl
  | k, d :: r => by simp [enumD, enumD_len (k + 1) r]
theorem enumD_get : ∀ (k : Nat) (ds : List PyData) (i : Nat) (d : PyData), (enumD k ds)[i]? = some d → ∃ d0, ds[i]? = some d0 ∧ d = .tuple [.int ((k + i : Nat) : Int), d0]
  | _, [], i, d, h => by simp [enumD] at h
  | k, d0 :: r, 0, d, h => by simp [enumD] at h; exact ⟨d0, rfl, by simpa using h.symm⟩
  | k, d0 :: r, i + 1, d, h => by
    obtain ⟨d1, h1, h2⟩ := enumD_get (k + 1) r i d (by simpa [enumD] using h)
    exact ⟨d1, by simpa using h1, by rw [h2]; congr 3; omega⟩
theorem pair_new {p : Addr} {x y : V} {dx dy : PyData} (st : Stt K m G H σ e A) (hp : H p = none) (hx : Dq K G x dx) (hy : Dq K G y dy) :
    ∃ G', Step A G H A G' (upd H p (.tup [x, y])) ∧ Stt K m G' (upd H p (.tup [x, y])) σ e A ∧ Same G G' ∧ DqW true K G' (.ref p) (.tuple [dx, dy]) := by
  obtain ⟨s1, st1, sg⟩ := new_s (o := .tup [x, y]) st hp
  have q : DqA K (upd G p (.tup [x, y])) [x, y] [dx, dy] := (hx.mono sg |> fun a => DqA.cons a (DqA.cons (hy.mono sg) DqA.nil))
  exact ⟨_, s1, st1, sg, .inr ⟨rfl, p, _, _, rfl, rfl, SqT.of upd_same, q⟩⟩
theorem walkD_enumL {a : Addr} {xs : List V} {ds : List PyData} (hr : Rd G a (.lst xs)) (q : DqA K G xs ds) : WalkD K true G (Ite K a) (enumD 0 ds) := by
  have l := q.1
  refine ⟨fun i H hi s => ?_, fun H s => ⟨xs, .inl (same_rd s hr), by rw [enumD_len]; omega⟩, fun {i H x H' m G' σ e A} hi s st y => ?_⟩
  · rw [enumD_len] at hi
    exact ⟨xs, xs[i]'(by omega), .inl (same_rd s hr), List.getElem?_eq_getElem (by omega)⟩
  · obtain ⟨T, z, rfl, hT, rfl, hz⟩ := y
    rw [enumD_len] at hi
    have hx := hz xs (.inl (same_rd (s.trans st.sub) hr))
    have qz := (q.2 i z _ hx (List.getElem?_eq_getElem hi)).mono s
    obtain ⟨G2, s2, st2, sg2, q2⟩ := pair_new st hT (.int ((i : Nat) : Int)) qz
    refine ⟨G2, s2, st2, sg2, fun d hd => ?_⟩
    obtain ⟨d0, h1, rfl⟩ := enumD_get 0 ds i d hd
    rw [List.getElem?_eq_getElem hi] at h1
    cases h1
    rw [Nat.zero_add]; exact q2
theorem walkD_enumT {a : Addr} {xs : List V} {ds : List PyData} (hr : SqT K G a xs) (q : DqA K G xs ds) : WalkD K true G (IteT K a) (enumD 0 ds) := by
  have l := q.1
  refine ⟨fun i H hi s => ?_, fun H s => ⟨xs, same_seqT s hr, by rw [enumD_len]; omega⟩, fun {i H x H' m G' σ e A} hi s st y => ?_⟩
  · rw [enumD_len] at hi
    exact ⟨xs, xs[i]'(by omega), same_seqT s hr, List.getElem?_eq_getElem (by omega)⟩
  · obtain ⟨T, z, rfl, hT, rfl, hz⟩ := y
    rw [enumD_len] at hi
    have hx := hz xs (same_seqT (s.trans st.sub) hr)
    have qz := (q.2 i z _ hx (List.getElem?_eq_getElem hi)).mono s
    obtain ⟨G2, s2, st2, sg2, q2⟩ := pair_new st hT (.int ((i : Nat) : Int)) qz
    refine ⟨G2, s2, st2, sg2, fun d hd => ?_⟩
    obtain ⟨d0, h1, rfl⟩ := enumD_get 0 ds i d hd
    rw [List.getElem?_eq_getElem hi] at h1
    cases h1
    rw [Nat.zero_add]; exact q2
def zipD : List PyData → List PyData → List PyData
  | a :: as, b :: bs => .tuple [a, b] :: zipD as bs
  | _, _ => []
theorem zipD_len : ∀ (as bs : List PyData), (zipD as bs).length = min as.length bs.length
  | [], _ => by simp [zipD]
  | _ :: _, [] => by simp [zipD]
  | a :: as, b :: bs => by simp [zipD, zipD_len as bs]
theorem zipD_get : ∀ (as bs : List PyData) (i : Nat) (d : PyData), (zipD as bs)[i]? = some d → ∃ x y, as[i]? = some x ∧ bs[i]? = some y ∧ d = .tuple [x, y]
  | [], _, i, d, h => by simp [zipD] at h
  | _ :: _, [], i, d, h => by simp [zipD] at h
  | a :: as, b :: bs, 0, d, h => by simp [zipD] at h; exact ⟨a, b, rfl, rfl, h.symm⟩
  | a :: as, b :: bs, i + 1, d, h => by
    obtain ⟨x, y, h1, h2, h3⟩ := zipD_get as bs i d (by simpa [zipD] using h)
    exact ⟨x, y, by simpa using h1, by simpa using h2, h3⟩
theorem walkD_zipL {a b : Addr} {xs ys : List V} {ds es : List PyData} (hr : Rd G a (.lst xs)) (q : DqA K G xs ds) (hr2 : Rd G b (.lst ys)) (q2 : DqA K G ys es) : WalkD K true G (Itz K a b) (zipD ds es) := by
  have l := q.1
  have l2 := q2.1
  refine ⟨fun i H hi s => ?_, fun H s => ⟨xs, ys, .inl (same_rd s hr), .inl (same_rd s hr2), by rw [zipD_len]; omega⟩, fun {i H x H' m G' σ e A} hi s st y => ?_⟩
  · rw [zipD_len] at hi
    exact ⟨xs, ys, xs[i]'(by omega), ys[i]'(by omega), .inl (same_rd s hr), .inl (same_rd s hr2), List.getElem?_eq_getElem (by omega), List.getElem?_eq_getElem (by omega)⟩
  · obtain ⟨T, z, z2, rfl, hT, rfl, hz, hz2⟩ := y
    have hx := hz xs (.inl (same_rd (s.trans st.sub) hr))
    have hy := hz2 ys (.inl (same_rd (s.trans st.sub) hr2))
    obtain ⟨d, hd⟩ : ∃ d, (zipD ds es)[i]? = some d := ⟨_, List.getElem?_eq_getElem hi⟩
    obtain ⟨dx, dy, h1, h2, rfl⟩ := zipD_get _ _ _ _ hd
    obtain ⟨G2, s2, st2, sg2, q3⟩ := pair_new st hT ((q.2 i z _ hx h1).mono s) ((q2.2 i z2 _ hy h2).mono s)
    exact ⟨G2, s2, st2, sg2, fun d' hd' => by rw [hd] at hd'; cases hd'; exact q3⟩
theorem walkD_zipT {a b : Addr} {xs ys : List V} {ds es : List PyData} (hr : SqT K G a xs) (q : DqA K G xs ds) (hr2 : SqT K G b ys) (q2 : DqA K G ys es) : WalkD K true G (RZ.ItzT K a b) (zipD ds es) := by
  have l := q.1
  have l2 := q2.1
  refine ⟨fun i H hi s => ?_, fun H s => ⟨xs, ys, same_seqT s hr, same_seqT s hr2, by rw [zipD_len]; omega⟩, fun {i H x H' m G' σ e A} hi s st y => ?_⟩
  · rw [zipD_len] at hi
    exact ⟨xs, ys, xs[i]'(by omega), ys[i]'(by omega), same_seqT s hr, same_seqT s hr2, List.getElem?_eq_getElem (by omega), List.getElem?_eq_getElem (by omega)⟩
  · obtain ⟨T, z, z2, rfl, hT, rfl, hz, hz2⟩ := y
    have hx := hz xs (same_seqT (s.trans st.sub) hr)
    have hy := hz2 ys (same_seqT (s.trans st.sub) hr2)
    obtain ⟨d, hd⟩ : ∃ d, (zipD ds es)[i]? = some d := ⟨_, List.getElem?_eq_getElem hi⟩
    obtain ⟨dx, dy, h1, h2, rfl⟩ := zipD_get _ _ _ _ hd
    obtain ⟨G2, s2, st2, sg2, q3⟩ := pair_new st hT ((q.2 i z _ hx h1).mono s) ((q2.2 i z2 _ hy h2).mono s)
    exact ⟨G2, s2, st2, sg2, fun d' hd' => by rw [hd] at hd'; cases hd'; exact q3⟩
end
def seqD : PyData → Option (List PyData)
  | .list xs => some xs
  | .tuple xs => some xs
  | _ => none
def iSeq (f : Ef) : Lf := fun e => (f e).bind fun p => (seqD p.1).bind fun ds => some (ds, p.2)
def iEn (f : Ef) : Lf := fun e => (f e).bind fun p => (seqD p.1).bind fun ds => some (enumD 0 ds, p.2)
def zipS : PyData → PyData → Option (List PyData)
  | .list xs, .list ys => some (zipD xs ys)
  | .tuple xs, .tuple ys => some (zipD xs ys)
  | _, _ => none
def iZp (f g : Ef) : Lf := fun e => (f e).bind fun p => (g p.2).bind fun q => (zipS p.1 q.1).bind fun ds => some (ds, q.2)
def rng1 : PyData → Option (List PyData)
  | .int j => if j.toNat ≤ sizeLine ∧ -(2 ^ 62) ≤ j ∧ j < 2 ^ 62 then some (rngD 0 j.toNat) else none
  | _ => none
def rng2 : PyData → PyData → Option (List PyData)
  | .int i, .int j => if (j - i).toNat ≤ sizeLine ∧ -(2 ^ 62) ≤ i ∧ i < 2 ^ 62 ∧ -(2 ^ 62) ≤ j ∧ j < 2 ^ 62 then some (rngD i (j - i).toNat) else none
  | _, _ => none
def iR1 (f : Ef) : Lf := fun e => (f e).bind fun p => (rng1 p.1).bind fun ds => some (ds, p.2)
def iR2 (f g : Ef) : Lf := fun e => (f e).bind fun p => (g p.2).bind fun q => (rng2 p.1 q.1).bind fun ds => some (ds, q.2)
section
variable {ι : Type} {Xf : ι → Cx} {P : Program} {w : World} {K : PySem.W.Frag} {mg : Str → Option Value} {base : Heap} {n : Nat} [F : Fam Xf P w K mg base n]
variable {m m1 m2 m3 : List Ty} {pos p p2 tpos : Pos} {a b c tg : Expr} {elts : List Expr} {kk : Nat} {f g h : Ef}
include F
theorem pi_seq (ha : PD Xf K m a .s f m1) : PIt Xf K false m tg a (iSeq f) m1 := by
  obtain ⟨ta, pa, da⟩ := ha.ex
  refine ⟨_, fun i => PI.or (by have := pi_list (tg := tg) (pa i); rw [F.kk i] at this; exact this) (by have := pi_tup (tg := tg) (pa i); rw [F.kk i] at this; exact this), fun {G H σ e A ds e' R} st hf k => ?_⟩
  unfold iSeq at hf
  obtain ⟨⟨d1, e1⟩, hf1, hf⟩ := oBs hf
  obtain ⟨ds1, hf2, hf⟩ := oBs hf
  cases hf
  cases d1 with
  | list xs =>
    cases hf2
    refine .inl (da st hf1 fun G1 H1 v1 A1 B1 s1 st1 o1 nd1 => ?_)
    cases o1 with
    | s q1 =>
      obtain ⟨a, vs, rfl, r1, z1, qq⟩ := dq_lst q1
      exact ⟨a, rfl, ⟨vs, .inl (same_rd st1.sub r1)⟩, k _ _ _ _ s1 st1 (walkD_list r1 qq).d (by rw [← qq.1]; exact z1)⟩
  | tuple xs =>
    cases hf2
    refine .inr (da st hf1 fun G1 H1 v1 A1 B1 s1 st1 o1 nd1 => ?_)
    cases o1 with
    | s q1 =>
      obtain ⟨a, vs, rfl, r1, z1, qq⟩ := dq_tup q1
      exact ⟨a, rfl, ⟨vs, same_seqT st1.sub r1⟩, k _ _ _ _ s1 st1 (walkD_tup r1 qq).d (by rw [← qq.1]; exact z1)⟩
  | _ => cases hf2
theorem pi_r1 (hm : mg "range" = none) (ha : PD Xf K m a .s f m1) (hg : ∀ i, Gl (Xf i) "range" := by intro _; rfl) (hs : ∀ i, starEach [a] (Xf i).env = [(false, eval a (Xf i).env)] := by intro _; rfl) : PIt Xf K false m tg (.Call (.Name "range" p) [a] [] pos) (iR1 f) m1 := by
  obtain ⟨ta, pa, da⟩ := ha.ex
  refine ⟨_, fun i => pi_range1 (hg i) (by rw [F.mg_ i]; exact hm) (pa_cons (pa i) pa_nil (hs i)) (hs i), fun {G H σ e A ds e' R} st hf k => ?_⟩
  unfold iR1 at hf
  obtain ⟨⟨d1, e1⟩, hf1, hf⟩ := oBs hf
  obtain ⟨ds1, hf2, hf⟩ := oBs hf
  cases hf
  refine da st hf1 fun G1 H1 v1 A1 B1 s1 st1 o1 nd1 => ?_
  cases o1 with
  | s q1 =>
    cases d1 with
    | int j =>
      obtain ⟨hz, rfl⟩ := ite_some hf2
      replace hz := And.intro hz.2.1 (And.intro hz.2.2 hz.1)
      obtain rfl := dq_int q1
      exact ⟨j, rfl, hz.1, hz.2.1, k _ _ _ _ s1 st1 walkD_range.d (by rw [rngD_len]; exact hz.2.2)⟩
    | _ => cases hf2
theorem pi_r2 (hm : mg "range" = none) (ha : PD Xf K m a .s f m1) (hb : PD Xf K m1 b .s g m2) (hg : ∀ i, Gl (Xf i) "range" := by intro _; rfl) (hs : ∀ i, starEach [a, b] (Xf i).env = [(false, eval a (Xf i).env), (false, eval b (Xf i).env)] := by intro _; rfl) (hs2 : ∀ i, starEach [b] (Xf i).env = [(false, eval b (Xf i).env)] := by intro _; rfl) :
    PIt Xf K false m tg (.Call (.Name "range" p) [a, b] [] pos) (iR2 f g) m2 := by
  obtain ⟨ta, pa, da⟩ := ha.ex
  obtain ⟨tb, pb, db⟩ := hb.ex
  refine ⟨_, fun i => pi_range2 (hg i) (by rw [F.mg_ i]; exact hm) (pa_cons (pa i) (pa_cons (pb i) pa_nil (hs2 i)) (by rw [hs i, hs2 i])) (hs i) (hs2 i), fun {G H σ e A ds e' R} st hf k => ?_⟩
  unfold iR2 at hf
  obtain ⟨⟨d1, e1⟩, hf1, hf⟩ := oBs hf
  obtain ⟨⟨d2, e2⟩, hf2, hf⟩ := oBs hf
  obtain ⟨ds1, hf3, hf⟩ := oBs hf
  cases hf
  refine da st hf1 fun G1 H1 v1 A1 B1 s1 st1 o1 nd1 => ?_
  cases o1 with
  | s q1 =>
    refine db st1 hf2 fun G2 H2 v2 A2 B2 s2 st2 o2 nd2 => ?_
    cases o2 with
    | s q2 =>
      have hf3 : rng2 d1 d2 = some ds := hf3
      unfold rng2 at hf3
      split at hf3
      · obtain ⟨hz, rfl⟩ := ite_some hf3
        replace hz := And.intro hz.2.1 (And.intro hz.2.2.1 (And.intro hz.2.2.2.1 (And.intro hz.2.2.2.2 hz.1)))
        obtain rfl := dq_int q1
        obtain rfl := dq_int q2
        exact ⟨_, _, rfl, ⟨hz.1, hz.2.1, hz.2.2.1, hz.2.2.2.1⟩, k _ _ _ _ (s1.seq0 s2) st2 walkD_range.d (by rw [rngD_len]; exact hz.2.2.2.2)⟩
      · cases hf3
theorem pi_en (hm : mg "enumerate" = none) (ha : PD Xf K m a .s f m1) (hg : ∀ i, Gl (Xf i) "enumerate" := by intro _; rfl) (hs : ∀ i, starEach [a] (Xf i).env = [(false, eval a (Xf i).env)] := by intro _; rfl) : PIt Xf K true m (.Tuple elts kk tpos) (.Call (.Name "enumerate" p) [a] [] pos) (iEn f) m1 := by
  obtain ⟨ta, pa, da⟩ := ha.ex
  refine ⟨_, fun i => PI.or (by have := L2.pi_enum (elts := elts) (kk := kk) (tpos := tpos) (p := p) (pos := pos) (hg i) (by rw [F.mg_ i]; exact hm) (pa_cons (pa i) pa_nil (hs i)) (hs i); rw [F.kk i] at this; exact this)
    (by have := pi_enumT (elts := elts) (kk := kk) (tpos := tpos) (p := p) (pos := pos) (hg i) (by rw [F.mg_ i]; exact hm) (pa_cons (pa i) pa_nil (hs i)) (hs i); rw [F.kk i] at this; exact this), fun {G H σ e A ds e' R} st hf k => ?_⟩
  unfold iEn at hf
  obtain ⟨⟨d1, e1⟩, hf1, hf⟩ := oBs hf
  obtain ⟨ds1, hf2, hf⟩ := oBs hf
  cases hf
  cases d1 with
  | list xs =>
    cases hf2
    refine .inl (da st hf1 fun G1 H1 v1 A1 B1 s1 st1 o1 nd1 => ?_)
    cases o1 with
    | s q1 =>
      obtain ⟨a, vs, rfl, r1, z1, qq⟩ := dq_lst q1
      exact ⟨a, vs, rfl, .inl (same_rd st1.sub r1), k _ _ _ _ s1 st1 (walkD_enumL r1 qq) (by rw [enumD_len, ← qq.1]; exact z1)⟩
  | tuple xs =>
    cases hf2
    refine .inr (da st hf1 fun G1 H1 v1 A1 B1 s1 st1 o1 nd1 => ?_)
    cases o1 with
    | s q1 =>
      obtain ⟨a, vs, rfl, r1, z1, qq⟩ := dq_tup q1
      exact ⟨a, vs, rfl, same_seqT st1.sub r1, k _ _ _ _ s1 st1 (walkD_enumT r1 qq) (by rw [enumD_len, ← qq.1]; exact z1)⟩
  | _ => cases hf2
theorem pi_zp (hm : mg "zip" = none) (ha : PD Xf K m a .s f m1) (hb : PD Xf K m1 b .s g m2) (hg : ∀ i, Gl (Xf i) "zip" := by intro _; rfl) (hs : ∀ i, starEach [a, b] (Xf i).env = (false, eval a (Xf i).env) :: starEach [b] (Xf i).env := by intro _; rfl) (hs2 : ∀ i, starEach [b] (Xf i).env = (false, eval b (Xf i).env) :: starEach [] (Xf i).env := by intro _; rfl)
    (hpl : ∀ i, (backTo pos (starEach [b] (Xf i).env)).any (·.1) = false := by intro _; rfl) : PIt Xf K true m (.Tuple elts kk tpos) (.Call (.Name "zip" p) [a, b] [] pos) (iZp f g) m2 := by
  obtain ⟨ta, pa, da⟩ := ha.ex
  obtain ⟨tb, pb, db⟩ := hb.ex
  refine ⟨RZ.iZipA K (tCons ta (tCons tb tNil)), fun i => (by have := RZ.pi_zipA (elts := elts) (kk := kk) (tpos := tpos) (p := p) (pos := pos) (hg i) (by rw [F.mg_ i]; exact hm) (pa_cons (pa i) (pa_cons (pb i) pa_nil (hs2 i)) (hs i)) (hs i) (hpl i); rw [F.kk i] at this; exact this), fun {G H σ e A ds e' R} st hf k => ?_⟩
  unfold iZp at hf
  obtain ⟨⟨d1, e1⟩, hf1, hf⟩ := oBs hf
  obtain ⟨⟨d2, e2⟩, hf2, hf⟩ := oBs hf
  obtain ⟨ds1, hf3, hf⟩ := oBs hf
  cases hf
  refine da st hf1 fun G1 H1 v1 A1 B1 s1 st1 o1 nd1 => ?_
  cases o1 with
  | s q1 =>
    refine db st1 hf2 fun G2 H2 v2 A2 B2 s2 st2 o2 nd2 => ?_
    cases o2 with
    | s q2 =>
      have q1' := q1.mono s2.sg
      have hf3 : zipS d1 d2 = some ds := hf3
      unfold zipS at hf3
      split at hf3
      · cases hf3
        obtain ⟨a, xs, rfl, r1, z1, w1⟩ := dq_lst q1'
        obtain ⟨b, ys, rfl, r2, z2, w2⟩ := dq_lst q2
        refine ⟨a, b, xs, ys, rfl, .inl ⟨.inl (same_rd st2.sub r1), .inl (same_rd st2.sub r2), k _ _ _ _ (s1.seq0 s2) st2 (walkD_zipL r1 w1 r2 w2) ?_⟩⟩
        rw [zipD_len]; have := w1.1; omega
      · cases hf3
        obtain ⟨a, xs, rfl, r1, z1, w1⟩ := dq_tup q1'
        obtain ⟨b, ys, rfl, r2, z2, w2⟩ := dq_tup q2
        refine ⟨a, b, xs, ys, rfl, .inr ⟨same_seqT st2.sub r1, same_seqT st2.sub r2, k _ _ _ _ (s1.seq0 s2) st2 (walkD_zipT r1 w1 r2 w2) ?_⟩⟩
        rw [zipD_len]; have := w1.1; omega
      · cases hf3
end
end DL
namespace DL
open PySem L2 PySem.Spec
abbrev Gf := PyData → En → Option En
abbrev Gsf := List PyData → En → Option En
def DG (K : PySem.W.Frag) (wk : Bool) (m : List Ty) (g : TG) (sl : List Nat) (gf : Gf) (m' : List Ty) : Prop :=
  ∀ {G H : Hp} {σ : St} {e : En} {A : List Addr} {x : V} {d : PyData} {e' : En} {Q : St → Hp → Prop}, Stt K m G H σ e A → DqW wk K G x d → gf d e = some e' →
    (∀ (G' H' : Hp) (σ' : St) (A' : List Addr), Step A G H A' G' H' → Stt K m' G' H' σ' e' A' → (∀ j, j ∉ sl → σ'[j]? = σ[j]?) → σ'.length = σ.length → Q σ' H') → g x σ H Q
def DGs (K : PySem.W.Frag) (m : List Ty) (g : TGs) (sl : List Nat) (gf : Gsf) (m' : List Ty) : Prop :=
  ∀ {G H : Hp} {σ : St} {e : En} {A : List Addr} {xs : List V} {ds : List PyData} {e' : En} {Q : St → Hp → Prop}, Stt K m G H σ e A → DqA K G xs ds → gf ds e = some e' →
    (∀ (G' H' : Hp) (σ' : St) (A' : List Addr), Step A G H A' G' H' → Stt K m' G' H' σ' e' A' → (∀ j, j ∉ sl → σ'[j]? = σ[j]?) → σ'.length = σ.length → Q σ' H') → g xs σ H Q
structure PGD {ι : Type} (Xf : ι → Cx) (K : PySem.W.Frag) (wk : Bool) (m : List Ty) (tg : Expr) (sl : List Nat) (gf : Gf) (m' : List Ty) : Prop where
  ex : ∃ g : TG, (∀ i, PG (Xf i) tg g) ∧ DG K wk m g sl gf m'
structure PGDs {ι : Type} (Xf : ι → Cx) (K : PySem.W.Frag) (m : List Ty) (tgs : List Expr) (sl : List Nat) (gf : Gsf) (m' : List Ty) : Prop where
  ex : ∃ g : TGs, (∀ i, PGs (Xf i) tgs g) ∧ DGs K m g sl gf m'
def gNm (j : Nat) : Gf := fun d e => some (e.set j d)
def gsNil : Gsf := fun ds e => match ds with | [] => some e | _ => none
def gsCons (g : Gf) (r : Gsf) : Gsf := fun ds e => match ds with | d :: ds => (g d e).bind fun e' => r ds e' | [] => none
def gTp (k : Nat) (r : Gsf) : Gf := fun d e => match d with | .tuple ds => if ds.length = k then r ds e else none | _ => none
section
variable {K : PySem.W.Frag} {G H : Hp}
theorem stt_set {m : List Ty} {σ : St} {e : En} {A Av : List Addr} {j : Nat} {t : Ty} {d : PyData} {v : V} (st : Stt K m G H σ e A) (hj : j < m.length) (o : Own K G H t d (some v) Av) (nd : (Av ++ A).Nodup) :
    ∃ A', Stt K (m.set j t) G H (σ.set j (some v)) (e.set j d) A' ∧ ∀ a ∈ A', a ∈ Av ++ A := by
  obtain ⟨A0, h0, B, hp⟩ := ownA_hide st.own j
  obtain ⟨A', o', p'⟩ := ownA_put h0 (by rw [List.getElem?_set_self hj]) o
  rw [List.set_set] at o'
  have inA : ∀ a ∈ A0, a ∈ A := fun a h => hp.mem_iff.mpr (List.mem_append_right _ h)
  have n := List.nodup_append.mp nd
  have nA := List.nodup_append.mp (hp.nodup_iff.mp n.2.1)
  refine ⟨A', ⟨o', p'.nodup_iff.mpr (List.nodup_append.mpr ⟨n.1, nA.2.1, fun a ha b hb z => n.2.2 a ha b (inA b hb) z⟩), st.sub⟩, fun a ha => ?_⟩
  rcases List.mem_append.mp (p'.mem_iff.mp ha) with z | z
  · exact List.mem_append_left _ z
  · exact List.mem_append_right _ (inA a z)
end
section
variable {ι : Type} {Xf : ι → Cx} {P : Program} {w : World} {K : PySem.W.Frag} {mg : Str → Option Value} {base : Heap} {n : Nat} [F : Fam Xf P w K mg base n]
variable {m m1 m2 m3 : List Ty} {pos p p2 tpos : Pos} {a b c tg : Expr} {tgs : List Expr} {elts : List Expr} {kk : Nat} {sl sl2 : List Nat} {gf : Gf} {gs : Gsf}
include F in
theorem pg_nm (j : Nat) {x : Str} (hj : j < m.length := by first | decide | rfl | simp) (hi : ∀ i, (Xf i).N[j]? = some x := by intro _; rfl) (hx : ∀ i, Loc (Xf i).env.scope x := by first | (intro _; exact Or.inl rfl) | (intro _; exact Or.inr rfl))
    (hf : ∀ i, (Xf i).fn x = true ∨ (Xf i).env.scope.names.lookup x = some .local := by first | (intro _; exact Or.inl rfl) | (intro _; exact Or.inr rfl)) : PGD Xf K false m (.Name x pos) [j] (gNm j) (m.set j .s) := by
  refine ⟨gName j, fun i => pg_name (F.nd i) (hi i) (hx i) (hf i), fun {G H σ e A x d e' Q} st q hf k => ?_⟩
  cases hf
  obtain ⟨A', st', hA⟩ := stt_set st hj (.s q.strong) (Av := []) st.nd
  exact k G H _ A' ⟨Same.refl G, fun a o h _ => h, fun a ha => .inl (hA a ha), fun a h1 ⟨o, h2⟩ => by rw [h1] at h2; cases h2⟩ st' (fun i hi => by rw [List.getElem?_set_ne]; intro z; exact hi (by simp [z])) (by simp)
theorem pgs_nl : PGDs Xf K m [] [] gsNil m := by
  refine ⟨gNil, fun i => pgs_nil, fun {G H σ e A xs ds e' Q} st q hf k => ?_⟩
  unfold gsNil at hf
  cases ds with
  | nil =>
    cases hf
    exact ⟨List.length_eq_zero_iff.mp q.1, k G H σ A Step.refl st (fun _ _ => rfl) rfl⟩
  | cons _ _ => cases hf
theorem pgs_cn (h1 : PGD Xf K false m a sl gf m1) (h2 : PGDs Xf K m1 tgs sl2 gs m2) (hs : ∀ i, (assignEach (a :: tgs) (Xf i).env).map (·.snd) = assign a (Xf i).env :: (assignEach tgs (Xf i).env).map (·.snd) := by intro _; rfl) : PGDs Xf K m (a :: tgs) (sl ++ sl2) (gsCons gf gs) m2 := by
  obtain ⟨g1, p1, d1⟩ := h1.ex
  obtain ⟨g2, p2, d2⟩ := h2.ex
  refine ⟨gCons g1 g2, fun i => pgs_cons (p1 i) (p2 i) (hs i), fun {G H σ e A xs ds e' Q} st q hf k => ?_⟩
  cases ds with
  | nil => cases hf
  | cons d ds =>
    obtain ⟨e1, hf1, hf⟩ := oBs (show (gf d e).bind _ = _ from hf)
    cases xs with
    | nil => have := q.1; simp at this
    | cons v vs =>
      refine ⟨v, vs, rfl, d1 st (.inl q.head) hf1 fun G1 H1 σ1 A1 s1 st1 k1 l1 => d2 st1 (q.tail.mono s1.sg) hf fun G2 H2 σ2 A2 s2 st2 k2 l2 => k _ _ _ _ (s1.seq0 s2) st2 (fun j hj => ?_) (l2.trans l1)⟩
      rw [k2 j (fun z => hj (List.mem_append_right _ z)), k1 j (fun z => hj (List.mem_append_left _ z))]
include F in
theorem pg_tp {wk : Bool} {k : Nat} (h : PGDs Xf K m elts sl gs m1) (hk : elts.length = k := by rfl) {kk : Nat} (hpg : ∀ i {t : TGs}, PGs (Xf i) elts t → PG (Xf i) (.Tuple elts kk tpos) (gTup (Xf i).K k t) := by intro i t h; exact pg_tup (by rfl) h) : PGD Xf K wk m (.Tuple elts kk tpos) sl (gTp k gs) m1 := by
  obtain ⟨g, p, d⟩ := h.ex
  refine ⟨gTup K k g, fun i => by have := hpg i (p i); rw [F.kk i] at this; exact this, fun {G H σ e A x dd e' Q} st q hf kont => ?_⟩
  cases dd with
  | tuple ds =>
    have hf : (if ds.length = k then gs ds e else none) = some e' := hf
    split at hf
    · rename_i hl
      obtain ⟨a, xs, rfl, r1, qq⟩ := dqW_tup q
      exact ⟨a, xs, rfl, same_seqT st.sub r1, by rw [qq.1]; exact hl, d st qq hf kont⟩
    · cases hf
  | _ => cases hf
end
structure BI (ι : Type) where
  i : ι
  s : Shared
  H : Hp
  C : Addr
  cl : List (Str × Addr)
  fp : List Addr
def blkF {ι : Type} (Xf : ι → Cx) (scope : Scope) : BI ι → Cx := fun b => (Xf b.i).blk b.s b.H scope (compEnvC scope b.cl b.C (Xf b.i).env) b.fp
instance {ι : Type} {Xf : ι → Cx} {P : Program} {w : World} {K : PySem.W.Frag} {mg : Str → Option Value} {base : Heap} {n : Nat} [F : Fam Xf P w K mg base n] {scope : Scope} : Fam (blkF Xf scope) P w K mg base n :=
  ⟨fun b => F.prog b.i, fun b => F.w_ b.i, fun b => F.kk b.i, fun b => F.mg_ b.i, fun b => F.base_ b.i, fun b => F.room b.i, fun b => F.nd b.i⟩
instance {ι : Type} {Xf : ι → Cx} [F : FamG Xf] {scope : Scope} : FamG (blkF Xf scope) := ⟨fun b => F.gd b.i, fun b => F.calm b.i, fun b => F.hd b.i⟩
def hideM (m : List Ty) : List Nat → List Ty
  | [] => m
  | v :: vs => (hideM m vs).set v .u
def restE (e : En) (e' : En) : List Nat → En
  | [] => e'
  | v :: vs => restE e (e'.set v (e.getD v .none)) vs
def usB (m : List Ty) : List Nat → Bool
  | [] => true
  | v :: vs => (match m[v]? with | some .u => true | some .s => true | _ => false) && decide (v ∉ vs) && usB m vs
section
variable {K : PySem.W.Frag} {G H : Hp}
theorem ownA_set0 {ts : List Ty} {ds : List PyData} {vs : List (Option V)} {A : List Addr} (h : OwnA K G H ts ds vs A) {j : Nat} (hj : ts[j]? = some .u ∨ ts[j]? = some .s) {t : Ty} {d : PyData} {v : Option V} (o : Own K G H t d v []) :
    OwnA K G H (ts.set j t) (ds.set j d) (vs.set j v) A := by
  induction ts generalizing ds vs A j with
  | nil => cases h; simpa using OwnA.nil
  | cons t0 ts ih =>
    cases h with
    | @cons _ _ d0 ds v0 vs A B h1 h2 =>
      cases j with
      | zero =>
        have hA : A = [] := by
          rcases hj with hj | hj <;> (simp at hj; subst hj; cases h1; rfl)
        subst hA
        simpa using OwnA.cons o h2
      | succ j => simpa using OwnA.cons h1 (ih h2 (by simpa using hj))
theorem hideM_get {m : List Ty} {j : Nat} : ∀ {vs : List Nat}, j ∉ vs → (hideM m vs)[j]? = m[j]?
  | [], _ => rfl
  | v :: vs, h => by
    unfold hideM
    rw [List.getElem?_set_ne (fun z => h (by simp [z])), hideM_get fun z => h (List.mem_cons_of_mem _ z)]
theorem us_cons {m : List Ty} {v : Nat} {vs : List Nat} (h : usB m (v :: vs) = true) : (m[v]? = some .u ∨ m[v]? = some .s) ∧ v ∉ vs ∧ usB m vs = true := by
  unfold usB at h
  simp only [Bool.and_eq_true, decide_eq_true_eq] at h
  refine ⟨?_, h.1.2, h.2⟩
  have h1 := h.1.1
  split at h1 <;> simp_all
theorem wipeA {m : List Ty} {e : En} {σ : St} {A : List Addr} (h : OwnA K G H m e σ A) : ∀ {vs : List Nat}, usB m vs = true → OwnA K G H (hideM m vs) e (wipe σ vs) A
  | [], _ => h
  | v :: vs, us => by
    obtain ⟨h1, h2, h3⟩ := us_cons us
    have ih := wipeA h h3
    unfold hideM wipe
    have hv : (hideM m vs)[v]? = some .u ∨ (hideM m vs)[v]? = some .s := by rw [hideM_get h2]; exact h1
    have hl := ownA_len ih
    have hlt : v < e.length := by
      have : v < (hideM m vs).length := by rcases hv with z | z <;> exact (List.getElem?_eq_some_iff.mp z).1
      omega
    have := ownA_set0 (t := .u) (d := e[v]) (v := none) ih hv (.u _ _)
    rw [set_id (List.getElem?_eq_getElem hlt)] at this
    exact this
theorem unwipeA {m : List Ty} {e0 : En} {σ : St} {G0 : Hp} {A0 : List Addr} {H0 : Hp} (h0 : OwnA K G0 H0 m e0 σ A0) (sg : Same G0 G) : ∀ {vs : List Nat} {e' : En} {A : List Addr}, usB m vs = true → OwnA K G H (hideM m vs) e' (wipe σ vs) A → OwnA K G H m (restE e0 e' vs) σ A
  | [], _, _, _, h => h
  | v :: vs, e', A, us, h => by
    obtain ⟨h1, h2, h3⟩ := us_cons us
    unfold hideM wipe at h
    unfold restE
    have hv : (hideM m vs)[v]? = m[v]? := hideM_get h2
    obtain ⟨t, ht⟩ : ∃ t, m[v]? = some t := by rcases h1 with z | z <;> exact ⟨_, z⟩
    obtain ⟨d, x, Aj, B0, k1, k2, k3, _, _⟩ := ownA_take h0 ht
    have hA : Aj = [] := by
      rcases h1 with z | z <;> (rw [ht] at z; cases z; cases k3; rfl)
    subst hA
    have k3' : Own K G H t d x [] := by
      rcases h1 with z | z
      · rw [ht] at z; cases z; exact .u _ _
      · rw [ht] at z; cases z
        cases k3 with
        | s q => exact .s (q.mono sg)
    have hlv : v < (hideM m vs).length := by rw [← hv] at ht; exact (List.getElem?_eq_some_iff.mp ht).1
    have key := ownA_set0 h (j := v) (.inl (by simp [hlv])) k3'
    rw [List.set_set, set_id (by rw [hv]; exact ht), List.set_set] at key
    have ex : (wipe σ vs).set v x = wipe σ vs := by
      apply set_id
      rw [wipe_out h2]; exact k2
    rw [ex] at key
    have ed : e0.getD v .none = d := by rw [List.getD_eq_getElem?_getD, k1]; rfl
    rw [ed]
    exact unwipeA h0 sg h3 key
theorem ownA_snoc {ts : List Ty} {ds : List PyData} {vs : List (Option V)} {A : List Addr} (h : OwnA K G H ts ds vs A) {t : Ty} {d : PyData} {v : Option V} {B : List Addr} (o : Own K G H t d v B) : OwnA K G H (ts ++ [t]) (ds ++ [d]) (vs ++ [v]) (A ++ B) := by
  induction ts generalizing ds vs A with
  | nil => cases h; simpa using OwnA.cons o .nil
  | cons t0 ts ih =>
    cases h with
    | cons h1 h2 => rw [List.append_assoc]; exact .cons h1 (ih h2)
theorem wipe_in {σ : St} {j : Nat} : ∀ {vs : List Nat}, j ∈ vs → j < σ.length → (wipe σ vs)[j]? = some none
  | v :: vs, h, hl => by
    unfold wipe
    by_cases q : v = j
    · subst q; rw [List.getElem?_set_self (by rw [wipe_length]; exact hl)]
    · rw [List.getElem?_set_ne q]
      rcases List.mem_cons.mp h with z | z
      · exact absurd z.symm q
      · exact wipe_in z hl
theorem wipe_eq {σ σ2 : St} {vs sl : List Nat} (hs : ∀ j ∈ sl, j ∈ vs) (h : ∀ j, j ∉ sl → σ2[j]? = (wipe σ vs)[j]?) (hl : σ2.length = (wipe σ vs).length) : wipe σ2 vs = wipe σ vs := by
  apply List.ext_getElem?
  intro j
  rw [wipe_length] at hl
  by_cases hv : j ∈ vs
  · by_cases hj : j < σ.length
    · rw [wipe_in hv (by omega), wipe_in hv hj]
    · rw [List.getElem?_eq_none (by rw [wipe_length]; omega), List.getElem?_eq_none (by rw [wipe_length]; omega)]
  · rw [wipe_out hv, h j (fun z => hv (hs j z))]
end
def lcL (vs : List Nat) (gf : Gf) (tf : Bf) (ef : Ef) : List PyData → En → Option (List PyData × En)
  | [], e => some ([], e)
  | d :: ds, e => (gf d e).bind fun e1 => (tf e1).bind fun p => if p.1 = true then (ef p.2).bind fun q => (lcL vs gf tf ef ds (restE e q.2 vs)).bind fun r => some (q.1 :: r.1, r.2) else lcL vs gf tf ef ds (restE e p.2 vs)
def eLc (it : Lf) (vs : List Nat) (gf : Gf) (tf : Bf) (ef : Ef) : Ef := fun e => (it e).bind fun p => (lcL vs gf tf ef p.1 p.2).bind fun q => some (.list q.1, restE p.2 q.2 vs)
def bYes : Bf := fun e => some (true, e)
structure PTsD {ι : Type} (Xf : ι → Cx) (K : PySem.W.Frag) (m : List Ty) (ifs : List Expr) (f : Bf) : Prop where
  ex : ∃ tt : TT, (∀ i, PTs (Xf i) ifs tt) ∧ DT K m tt f m
theorem pts_no {ι : Type} {Xf : ι → Cx} {K : PySem.W.Frag} {m : List Ty} : PTsD Xf K m [] bYes := ⟨tYes, fun i => pts_nil, fun st hf k => by cases hf; exact k _ _ _ Step.refl st⟩
theorem pts_if {ι : Type} {Xf : ι → Cx} {K : PySem.W.Frag} {m : List Ty} {c : Expr} {f : Bf} (h : PB Xf K m c f m) : PTsD Xf K m [c] f := by
  obtain ⟨t, p, d⟩ := h.ex
  exact ⟨t, fun i => pts_one (p i), d⟩
structure LcI (K : PySem.W.Frag) (mh : List Ty) (ty : Ty) (A1 : List Addr) (G1 H1 : Hp) (D : Addr) (ws : St) (Gc Hc : Hp) (e : En) (A Aa : List Addr) (acc : List V) (da : List PyData) : Prop where
  step : Step A1 G1 H1 (D :: (Aa ++ A)) Gc Hc
  st : Stt K mh Gc Hc ws e A
  atD : Hc D = some (.lst acc)
  gD : Gc D = none
  own : OwnA K Gc Hc (List.replicate da.length ty) da (acc.map some) Aa
  nd : (D :: (Aa ++ A)).Nodup
section
variable {K : PySem.W.Frag} {mh m2 : List Ty} {ty : Ty} {A1 : List Addr} {G1 H1 : Hp} {D : Addr} {ws : St}
theorem LcI.move {Gc Hc : Hp} {e : En} {A Aa : List Addr} {acc : List V} {da : List PyData} (I : LcI K mh ty A1 G1 H1 D ws Gc Hc e A Aa acc da) {B : List Addr} {G2 H2 : Hp} (s : Step A Gc Hc B G2 H2) (ndB : B.Nodup) :
    Step A1 G1 H1 (D :: (Aa ++ B)) G2 H2 ∧ (D :: (Aa ++ B)).Nodup ∧ H2 D = some (.lst acc) ∧ G2 D = none ∧ OwnA K G2 H2 (List.replicate da.length ty) da (acc.map some) Aa := by
  have o1 : ∀ a ∈ D :: Aa, Gc a = none ∧ ∃ o, Hc a = some o := fun a ha => by
    rcases List.mem_cons.mp ha with rfl | ha
    · exact ⟨I.gD, _, I.atD⟩
    · exact ownA_at I.own a ha
  obtain ⟨s3, nd3, hg, hh⟩ := Step.seq (Av := D :: Aa) I.step o1 I.nd s ndB
  exact ⟨s3, nd3, by rw [hh D (List.mem_cons_self ..)]; exact I.atD, hg D (List.mem_cons_self ..), ownA_fr I.own s.sg (fun a ha => hg a (List.mem_cons_of_mem _ ha)) fun a ha => hh a (List.mem_cons_of_mem _ ha)⟩
end
section
variable {ι : Type} {Xf : ι → Cx} {P : Program} {w : World} {K : PySem.W.Frag} {mg : Str → Option Value} {base : Heap} {n : Nat} [F : Fam Xf P w K mg base n]
variable {m m1 m2 m3 : List Ty} {pos p p2 tpos : Pos} {elt iter tg : Expr} {ifs : List Expr} {scope : Scope} {own : List (Str × Nat)} {sl : List Nat} {gf : Gf} {it : Lf} {tf : Bf} {ef : Ef} {ty : Ty}
theorem DE.lc {wk : Bool} {wi : TI} {g : TG} {tt : TT} {te : TE} {vs : List Nat} (hi : DI K wk m wi it m1) (hg : DG K wk (hideM m1 vs) g sl gf m2) (ht : DT K m2 tt tf m2) (he : DE K m2 te ty ef m2) (us : usB m1 vs = true) (hs : ∀ j ∈ sl, j ∈ vs) (le : LeM m2 (hideM m1 vs)) :
    DE K m (tLc wi g tt te vs) (.l ty) (eLc it vs gf tf ef) m1 := by
  intro G H σ e A d e' Q st hf k
  unfold eLc at hf
  obtain ⟨⟨ds, e1⟩, hf1, hf⟩ := oBs hf
  obtain ⟨⟨rs, ef1⟩, hf2, hf⟩ := oBs hf
  cases hf
  refine hi st hf1 fun G1 H1 A1 J s1 st1 wk hz => ?_
  intro D hD
  have own1 := wipeA st1.own us
  have st1' : Stt K (hideM m1 vs) G1 H1 (wipe σ vs) e1 A1 := ⟨own1, st1.nd, st1.sub⟩
  obtain ⟨s2, st2, nd2, gD⟩ := new_o (o := .lst []) (B := []) st1' hD
  -- the word
  let T := fun (i : Nat) (Hc : Hp) => ∃ Gc ec A' Aa acc da r, LcI K (hideM m1 vs) ty A1 G1 H1 D (wipe σ vs) Gc Hc ec A' Aa acc da ∧ da.length ≤ i ∧ lcL vs gf tf ef (ds.drop i) ec = some (r, ef1) ∧ rs = da ++ r
  refine ⟨fun i mm Hc => mm = ds.length - i ∧ i ≤ ds.length ∧ T i Hc, ⟨ds.length, by omega, Nat.zero_le _, G1, e1, A1, [], [], [], rs, ⟨s2, st2, upd_same, gD, .nil, nd2⟩, Nat.le_refl _, hf2, rfl⟩, ?_⟩
  rintro i mm Hc ⟨rfl, hle, Gc, ec, A', Aa, acc, da, r, I, hda, hl, hrs⟩
  have sub1 : Same G1 Hc := I.step.sg.trans I.st.sub
  by_cases hi : i < ds.length
  · refine .inr ⟨wk.goes i Hc hi sub1, fun Hn => i < ds.length ∧ T (i + 1) Hn, fun Hn hn => ⟨ds.length - (i + 1), by omega, rfl, by omega, hn.2⟩, fun x Hy hy => ?_⟩
    obtain ⟨Gy, sy, sty, sgy, qy⟩ := wk.yields hi I.step.sg I.st hy
    have hd : ds.drop i = ds[i] :: ds.drop (i + 1) := List.drop_eq_getElem_cons hi
    rw [hd] at hl
    unfold lcL at hl
    obtain ⟨e2, hl1, hl⟩ := oBs hl
    obtain ⟨⟨b, e3⟩, hl2, hl⟩ := oBs hl
    refine hg sty (qy _ (List.getElem?_eq_getElem hi)) hl1 fun G3 H3 σ3 A3 s3 st3 k3 l3 => ⟨wipe_eq hs k3 l3, ?_⟩
    have wσ := wipe_eq hs k3 l3
    have usr : usB (hideM m1 vs) vs = true → True := fun _ => trivial
    refine ht st3 hl2 fun G4 H4 A4 s4 st4 => ?_
    have s34 := (sy.seq0 s3).seq0 s4
    -- the turn's end: the mask and the slots of the next turn
    have next : ∀ (G5 H5 : Hp) (A5 : List Addr) (e5 : En), Stt K m2 G5 H5 σ3 e5 A5 → ∃ G6 A6, Step A5 G5 H5 A6 G6 H5 ∧ Stt K (hideM m1 vs) G6 H5 (wipe σ vs) (restE ec e5 vs) A6 := fun G5 H5 A5 e5 st5 => by
      obtain ⟨G6, A6, s6, st6⟩ := stt_le le st5
      refine ⟨G6, A6, s6, ⟨?_, st6.nd, st6.sub⟩⟩
      have hidem : ∀ (us : List Nat) (e' : En) (σ' : St) {A : List Addr} {H : Hp} {G : Hp} {mm : List Ty}, OwnA K G H mm e' σ' A → (∀ v ∈ us, mm[v]? = some .u) → OwnA K G H mm (restE ec e' us) (wipe σ' us) A := by
        intro us
        induction us with
        | nil => intro e' σ' A H G mm h _; exact h
        | cons v us ih =>
          intro e' σ' A H G mm h hu
          unfold restE wipe
          have hv := hu v (List.mem_cons_self ..)
          have a := ownA_set0 (t := .u) (d := ec.getD v .none) (v := none) h (.inl hv) (.u _ _)
          rw [set_id hv] at a
          have b := ih _ _ a fun x hx => hu x (List.mem_cons_of_mem _ hx)
          -- wiping v first or last
          have c : wipe (σ'.set v none) us = (wipe σ' us).set v none := by
            clear ih a b hv hu h
            induction us with
            | nil => rfl
            | cons u us ihu =>
              unfold wipe
              rw [ihu]
              by_cases q : u = v
              · subst q; rfl
              · rw [List.set_comm _ _ (fun z => q z.symm)]
          rw [c] at b; exact b
      have hu : ∀ v ∈ vs, (hideM m1 vs)[v]? = some .u := by
        have aux : ∀ us : List Nat, usB m1 us = true → ∀ v ∈ us, (hideM m1 us)[v]? = some .u := by
          intro us
          induction us with
          | nil => intro _ v h; cases h
          | cons u us ih =>
            intro hus v hv
            obtain ⟨h1, h2, h3⟩ := us_cons hus
            unfold hideM
            by_cases q : u = v
            · subst q
              have : u < (hideM m1 us).length := by
                rw [← hideM_get (m := m1) h2] at h1
                rcases h1 with z | z <;> exact (List.getElem?_eq_some_iff.mp z).1
              simp [this]
            · rw [List.getElem?_set_ne q]
              rcases List.mem_cons.mp hv with z | z
              · exact absurd z.symm q
              · exact ih h3 v z
        exact aux vs us
      have := hidem vs e5 σ3 st6.own hu
      rw [wσ] at this
      exact this
    cases b with
    | true =>
      rw [if_pos rfl] at hl ⊢
      obtain ⟨⟨dy, e5⟩, hl3, hl⟩ := oBs hl
      obtain ⟨⟨r', ef'⟩, hl4, hl⟩ := oBs hl
      cases hl
      refine he st4 hl3 fun G5 H5 y Ay A5 s5 st5 o5 nd5 => ?_
      obtain ⟨G6, A6, s6, st6⟩ := next G5 H5 A5 e5 st5
      obtain ⟨s56, nd56, hg6, hh6⟩ := s5.seq (own_at o5) nd5 s6 st6.nd
      have o6 : Own K G6 H5 ty dy (some y) Ay := own_fr o5 s6.sg hg6 fun a ha => rfl
      obtain ⟨s7, nd7, atD, gD7, own7⟩ := I.move (s34.seq0 s56) nd56
      have hacc : acc.length = da.length := by have := (ownA_len I.own).2; simpa using this
      have hz' : acc.length < sizeLine := by
        omega
      refine ⟨acc, atD, hz', hi, G6, restE ec e5 vs, A6, Aa ++ Ay, acc ++ [y], da ++ [dy], r', ?_, by simp; omega, hl4, by rw [hrs]; simp⟩
      have nD : ∀ a ∈ Aa ++ (Ay ++ A6), a ≠ D := fun a ha z => (List.nodup_cons.mp nd7).1 (z ▸ ha)
      have frD : ∀ a, a ≠ D → upd H5 D (.lst (acc ++ [y])) a = H5 a := fun a ha => upd_ne ha
      refine ⟨⟨s7.sg, fun a o h ha => ?_, fun a ha => s7.own a (by simpa [List.append_assoc] using ha), s7.gnew⟩, ⟨ownA_fr st6.own (Same.refl _) (fun a ha => (ownA_at st6.own a ha).1) fun a ha => frD a (nD a (by simp [ha])), st6.nd, fun b x hx => ?_⟩, upd_same, gD7, ?_, by simpa [List.append_assoc] using nd7⟩
      · rw [frD a (ne_of_none h hD)]; exact s7.fr a o h ha
      · rw [frD b (ne_of_none hx gD7)]; exact st6.sub b x hx
      · have a1 : OwnA K G6 (upd H5 D (.lst (acc ++ [y]))) (List.replicate da.length ty) da (acc.map some) Aa := ownA_fr own7 (Same.refl _) (fun a ha => (ownA_at own7 a ha).1) fun a ha => frD a (nD a (by simp [ha]))
        have a2 : Own K G6 (upd H5 D (.lst (acc ++ [y]))) ty dy (some y) Ay := own_fr o6 (Same.refl _) hg6 fun a ha => frD a (nD a (by simp [ha]))
        have a3 := ownA_snoc a1 a2
        rw [List.length_append, List.length_singleton, List.replicate_succ', List.map_append]
        exact a3
    | false =>
      rw [if_neg (by simp)] at hl ⊢
      obtain ⟨G6, A6, s6, st6⟩ := next G4 H4 A4 e3 st4
      obtain ⟨s7, nd7, atD, gD7, own7⟩ := I.move (s34.seq0 s6) st6.nd
      exact ⟨hi, G6, restE ec e3 vs, A6, Aa, acc, da, r, ⟨s7, st6, atD, gD7, own7, nd7⟩, by omega, hl, hrs⟩
  · have hie : i = ds.length := by omega
    subst hie
    refine .inl ⟨wk.stops Hc sub1, ?_⟩
    rw [List.drop_length] at hl
    cases hl
    rw [List.append_nil] at hrs
    subst hrs
    have un := unwipeA (e' := ef1) st1.own I.step.sg us I.st.own
    have nd := List.nodup_cons.mp I.nd
    refine k Gc Hc (.ref D) (D :: Aa) A' (s1.seq0 ⟨I.step.sg, I.step.fr, I.step.own, I.step.gnew⟩) ⟨un, I.st.nd, I.st.sub⟩ (.l I.gD I.atD ?_ I.own) I.nd
    have hacc := (ownA_len I.own).2
    rw [List.length_map] at hacc
    omega
include F in
theorem pd_lc [FG : FamG Xf] {wk : Bool} (own : List (Str × Nat)) (hi : PIt Xf K wk m tg iter it m1) (hg : PGD (blkF Xf scope) K wk (hideM m1 (own.map (·.2))) tg sl gf m2) (ht : PTsD (blkF Xf scope) K m2 ifs tf) (he : PD (blkF Xf scope) K m2 elt ty ef m2)
    (ok : ∀ i, BlkOk (Xf i).N (Xf i).env.scope scope own := by intro _; exact blkOk_by (by rfl)) (us : usB m1 (own.map (·.2)) = true := by rfl) (hs : ∀ j ∈ sl, j ∈ own.map (·.2) := by decide) (le : LeM m2 (hideM m1 (own.map (·.2))) := by repeat (first | exact .nil | refine .cons (by first | exact .rfl _ | exact .u _) ?_))
    (hf : ∀ i x, foldedSetIterable iter (Xf i).env x = pure x := by intro _ _; rfl) : PD Xf K m (.ListComp elt [⟨tg, iter, ifs, 0⟩] scope pos) (.l ty) (eLc it (own.map (·.2)) gf tf ef) m1 := by
  obtain ⟨wi, pi, di⟩ := hi.ex
  obtain ⟨g, pg, dg⟩ := hg.ex
  obtain ⟨tt, pt, dt⟩ := ht.ex
  obtain ⟨te, pe, de⟩ := he.ex
  exact ⟨_, fun i => pe_lc (FG.calm i) (F.nd i) (pi i) (ok i) (fun s H C cl fp => pg ⟨i, s, H, C, cl, fp⟩) (fun s H C cl fp => pt ⟨i, s, H, C, cl, fp⟩) (fun s H C cl fp => pe ⟨i, s, H, C, cl, fp⟩) (hf i), DE.lc di dg dt de us hs le⟩
end
end DL
namespace DL
open PySem L2 PySem.Spec
abbrev Gq := En → Option PyData
def DQv (K : PySem.W.Frag) (m : List Ty) (te : TE) (g : Gq) : Prop :=
  ∀ {G H : Hp} {σ : St} {e : En} {A : List Addr} {d : PyData} {Q : VK}, Stt K m G H σ e A → g e = some d → (∀ (H' : Hp) (v : V), Same H H' → Dq K H' v d → Q v H') → te σ H Q
structure PQ {ι : Type} (Xf : ι → Cx) (K : PySem.W.Frag) (m : List Ty) (e : Expr) (g : Gq) : Prop where
  ex : ∃ te : TE, (∀ i, PE (Xf i) e te) ∧ DQv K m te g
def q1 (gg : PyData → Option PyData) (a : Gq) : Gq := fun e => (a e).bind gg
def q2 (gg : PyData → PyData → Option PyData) (a b : Gq) : Gq := fun e => (a e).bind fun x => (b e).bind fun y => gg x y
def qVar (j : Nat) : Gq := fun e => some (e.getD j .none)
def qC (d : PyData) : Gq := fun _ => some d
section
variable {K : PySem.W.Frag} {G H H' : Hp} {m : List Ty} {σ : St} {e : En} {A : List Addr}
theorem stt_grow (st : Stt K m G H σ e A) (s : Same H H') : Step A G H A G H' ∧ Stt K m G H' σ e A :=
  ⟨⟨Same.refl G, fun a o h _ => s a o h, fun a h => .inl h, fun a h1 ⟨o, h2⟩ => by rw [h1] at h2; cases h2⟩,
    ⟨ownA_fr st.own (Same.refl G) (fun a ha => (ownA_at st.own a ha).1) fun a ha => by obtain ⟨o, h⟩ := (ownA_at st.own a ha).2; rw [h, s a o h], st.nd, st.sub.trans s⟩⟩
theorem stt0 (K : PySem.W.Frag) (H : Hp) : Stt K [] H H [] [] [] := ⟨.nil, List.nodup_nil, Same.refl H⟩
theorem own_snap {t : Ty} {d : PyData} {v : Option V} {A : List Addr} (o : Own K G H t d v A) (s : Same G H) (hn : nou t = true) : ∃ x, v = some x ∧ Dq K H x d := own_frz o s (fun _ _ => rfl) hn
theorem D2.q {r : R2} {ty : Ty} {gg : PyData → PyData → Option PyData} (h : D2 K r ty gg) (hn : nou ty = true) {x y : V} {dx dy d : PyData} {Q : VK} (hx : Dq K H x dx) (hy : Dq K H y dy) (hg : gg dx dy = some d) (k : ∀ (H' : Hp) (v : V), Same H H' → Dq K H' v d → Q v H') : r x y H Q :=
  h (stt0 K H) hx hy hg fun G' H' v Av A' s st o _ => by
    obtain ⟨w, hw, q⟩ := own_snap o st.sub hn
    cases hw
    exact k H' v (fun a o ha => s.fr a o ha (by simp)) q
theorem D1.q {r : V → Hp → VK → Prop} {ty : Ty} {gg : PyData → Option PyData} (h : D1 K r ty gg) (hn : nou ty = true) {x : V} {dx d : PyData} {Q : VK} (hx : Dq K H x dx) (hg : gg dx = some d) (k : ∀ (H' : Hp) (v : V), Same H H' → Dq K H' v d → Q v H') : r x H Q :=
  h (stt0 K H) hx hg fun G' H' v Av A' s st o _ => by
    obtain ⟨w, hw, q⟩ := own_snap o st.sub hn
    cases hw
    exact k H' v (fun a o ha => s.fr a o ha (by simp)) q
theorem DQv.bin {ta tb : TE} {r : R2} {ty : Ty} {gg : PyData → PyData → Option PyData} {f g : Gq} (ha : DQv K m ta f) (hb : DQv K m tb g) (hr : D2 K r ty gg) (hn : nou ty = true) : DQv K m (tOp r ta tb) (q2 gg f g) := by
  intro G H σ e A d Q st hf k
  obtain ⟨x, h1, hf⟩ := oBs hf
  obtain ⟨y, h2, hf⟩ := oBs hf
  refine ha st h1 fun H1 v s1 qx => hb (stt_grow st s1).2 h2 fun H2 w s2 qy => hr.q hn (qx.mono s2) qy hf fun H3 z s3 qz => k H3 z ((s1.trans s2).trans s3) qz
end
section
variable {ι : Type} {Xf : ι → Cx} {P : Program} {w : World} {K : PySem.W.Frag} {mg : Str → Option Value} {base : Heap} {n : Nat} [F : Fam Xf P w K mg base n]
variable {m m1 m2 m3 : List Ty} {pos p p2 apos cpos : Pos} {a b c : Expr} {f g h : Gq} {ty t : Ty} {ts : List Ty}
theorem pq_var (j : Nat) {t : Ty} {x : Str} (hm : m[j]? = some t := by rfl) (hn : nou t = true := by rfl) (hN : ∀ i, (Xf i).N[j]? = some x := by intro _; rfl)
    (hv : ∀ i, Vis (Xf i).env.scope x := by first | (intro _; exact Or.inl rfl) | (intro _; exact Or.inr (Or.inl rfl)) | (intro _; exact Or.inr (Or.inr rfl))) (hd : (x == ("__debug__" : Str)) = false := by decide)
    (hcd : (x == ("__classdict__" : Str)) = false := by decide) : PQ Xf K m (.Name x pos) (qVar j) := by
  refine ⟨tVar j, fun i => pe_var (hN i) (hv i) hd hcd, fun {G H σ e A d Q} st hf k => ?_⟩
  obtain ⟨d', v, Aj, A0, h1, h2, h3, _, _⟩ := ownA_take st.own hm
  obtain ⟨x', hx, q⟩ := own_snap h3 st.sub hn
  subst hx
  cases hf
  rw [List.getD_eq_getElem?_getD, h1] at k
  exact ⟨x', h2, k H x' (Same.refl H) q⟩
theorem pq_int {i : Int} {j} : PQ Xf K m (.Constant (.int i) j pos) (qC (.int i)) := ⟨_, fun _ => pe_int, fun {G H σ e A d Q} st hf k => by cases hf; exact k H _ (Same.refl H) (.int i)⟩
theorem pq_nil : PQ Xf K m (.List [] pos) (qC (.list [])) := ⟨_, fun _ => pe_lst pa_nil, fun {G H σ e A d Q} st hf k => by
  cases hf
  refine ⟨Nat.zero_le _, fun p hp => k _ _ (fun b x hx => by rw [upd_ne (ne_of_none hx hp)]; exact hx) (.lst (.inl upd_same) rfl (Nat.zero_le _) fun i v d h _ => by simp at h)⟩⟩
theorem pq_bin {op : Operator} {gg : PyData → PyData → Option PyData} (ho : Op2 Xf K (binaryOp op) ty gg) (ha : PQ Xf K m a f) (hb : PQ Xf K m b g) (hn : nou ty = true := by rfl) : PQ Xf K m (.BinOp a op b pos) (q2 gg f g) := by
  obtain ⟨r, hr, dr⟩ := ho.ex
  obtain ⟨ta, pa, da⟩ := ha.ex
  obtain ⟨tb, pb, db⟩ := hb.ex
  exact ⟨_, fun i => pe_op (hr i) (pa i) (pb i), DQv.bin da db dr hn⟩
theorem pq_ix {gg : PyData → PyData → Option PyData} (ho : Ix2 Xf K ty gg) (ha : PQ Xf K m a f) (hb : PQ Xf K m b g) (hs : PlainIx b := by exact fun _ _ => rfl) (hn : nou ty = true := by rfl) : PQ Xf K m (.Subscript a b pos) (q2 gg f g) := by
  obtain ⟨r, hr, dr⟩ := ho.ex
  obtain ⟨ta, pa, da⟩ := ha.ex
  obtain ⟨tb, pb, db⟩ := hb.ex
  exact ⟨_, fun i => pe_ix (hr i) (pa i) (pb i) hs, DQv.bin da db dr hn⟩
theorem DQv.un {r : V → Hp → VK → Prop} {ta : TE} {gg : PyData → Option PyData} (da : DQv K m ta f) (dr : D1 K r ty gg) (hn : nou ty = true) : DQv K m (fun σ H Q => ta σ H fun x H1 => r x H1 Q) (q1 gg f) := by
  intro G H σ e A d Q st hf k
  obtain ⟨x, h1, hf⟩ := oBs hf
  exact da st h1 fun H1 v s1 qx => dr.q hn qx hf fun H2 z s2 qz => k H2 z (s1.trans s2) qz
include F in
theorem pq_b1 {x : Str} {id : String} {gg : PyData → Option PyData} (hc : Cl1 Xf K (.builtin id) ty gg) (hm : mg x = none) (hv : bootBuiltins x = some (.builtin id)) (ha : PQ Xf K m a f) (hy : nou ty = true := by rfl) (hg : ∀ i, Gl (Xf i) x := by intro _; rfl)
    (hn : x ≠ "__name__" := by decide) (hdb : (x == ("__debug__" : Str)) = false := by decide) (he : ∀ i, starEach [a] (Xf i).env = (false, eval a (Xf i).env) :: starEach [] (Xf i).env := by intro _; rfl) (hpl : ∀ i, (backTo pos (starEach [] (Xf i).env)).any (·.1) = false := by intro _; rfl) : PQ Xf K m (.Call (.Name x p) [a] [] pos) (q1 gg f) := by
  obtain ⟨r, hr, dr⟩ := hc.ex
  obtain ⟨ta, pa, da⟩ := ha.ex
  exact ⟨_, fun i => pe_callB (hr i) (hg i) (by rw [F.mg_ i]; exact hm) hv (pa_cons (pa i) pa_nil (he i)) hn hdb (he i) (hpl i), DQv.un da dr hy⟩
def scD : PyData → Bool
  | .none | .bool _ | .int _ | .str _ => true
  | _ => false
theorem sc_any {K : PySem.W.Frag} {G H : Hp} {v : V} {d : PyData} (q : Dq K H v d) (h : scD d = true) : Dq K G v d := by
  cases q with
  | non => exact .non
  | bl b => exact .bl b
  | int i => exact .int i
  | str x hx => exact .str x hx
  | lst => cases h
  | tup => cases h
  | dic => cases h
  | dv => cases h
  | ob => cases h
def eQ (g : Gq) : Ef := fun e => (g e).bind fun d => if scD d = true then some (d, e) else none
def bQ (g : Gq) : Bf := fun e => (g e).bind fun d => (gTruth d).map fun b => (b, e)
theorem pd_q (ha : PQ Xf K m a f) : PD Xf K m a .s (eQ f) m := by
  obtain ⟨ta, pa, da⟩ := ha.ex
  refine ⟨ta, pa, fun {G H σ e A d e' Q} st hf k => ?_⟩
  obtain ⟨x, h1, hf⟩ := oBs hf
  obtain ⟨h2, h3⟩ := ite_some hf
  cases h3
  exact da st h1 fun H1 v s1 q => k G H1 v [] A (stt_grow st s1).1 (stt_grow st s1).2 (.s (sc_any q h2)) st.nd
def bQT (g : Gq) : Bf := fun e => (g e).bind fun d => match d with | .bool b => some (b, e) | _ => none
theorem pb_qcmp {op : CmpOp} {gg : PyData → PyData → Option PyData} (ho : Op2 Xf K (compareOp op) .s gg) (ha : PQ Xf K m a f) (hb : PQ Xf K m b g) (hm : behindInMarks op b = false := by first | exact nomark _ | rfl) : PB Xf K m (.Compare a [op] [b] pos) (bQT (q2 gg f g)) m := by
  obtain ⟨r, hr, dr⟩ := ho.ex
  obtain ⟨ta, pa, da⟩ := ha.ex
  obtain ⟨tb, pb, db⟩ := hb.ex
  refine ⟨_, fun i => pt_cmpR (hr i) (pa i) (pb i) hm, fun {G H σ e A b e' Q} st hf k => ?_⟩
  obtain ⟨x, h1, hf⟩ := oBs hf
  refine DQv.bin da db dr rfl st h1 fun H1 v s1 q => ?_
  cases q with
  | bl b1 => cases hf; exact ⟨_, rfl, k _ _ _ (stt_grow st s1).1 (stt_grow st s1).2⟩
  | _ => cases hf
end
def DPv (K : PySem.W.Frag) (m : List Ty) (te : TE) (g : Gq) : Prop :=
  ∀ {G H : Hp} {σ : St} {e : En} {A : List Addr} {d : PyData} {Q : VK}, Stt K m G H σ e A → g e = some d → (∀ (H' : Hp) (v : V), Same H H' → Dq K G v d → Q v H') → te σ H Q
structure PV {ι : Type} (Xf : ι → Cx) (K : PySem.W.Frag) (m : List Ty) (e : Expr) (g : Gq) : Prop where
  ex : ∃ te : TE, (∀ i, PE (Xf i) e te) ∧ DPv K m te g
def qS (g : Gq) : Gq := fun e => (g e).bind fun d => if scD d = true then some d else none
section
variable {ι : Type} {Xf : ι → Cx} {P : Program} {w : World} {K : PySem.W.Frag} {mg : Str → Option Value} {base : Heap} {n : Nat} [F : Fam Xf P w K mg base n]
variable {m m1 m2 m3 : List Ty} {pos p p2 apos cpos : Pos} {a b c : Expr} {f g h : Gq} {ty t : Ty} {ts : List Ty}
end
abbrev Pf := En → PyData → En
def DPl (K : PySem.W.Frag) (m : List Ty) (te : TE) (ty : Ty) (get : Gq) (put : Pf) : Prop :=
  ∀ {G H : Hp} {σ : St} {e : En} {A : List Addr} {d : PyData}, Stt K m G H σ e A → get e = some d → ∃ (a : Addr) (Ad Ar : List Addr), A.Perm (Ad ++ Ar) ∧ Own K G H ty d (some (.ref a)) Ad ∧
    (∀ {Q : VK}, (∀ H', Same H H' → Q (.ref a) H') → te σ H Q) ∧
    ∀ {G' H' : Hp} {d' : PyData} {Ad' : List Addr}, Same G G' → Own K G' H' ty d' (some (.ref a)) Ad' → (∀ b ∈ Ar, H' b = H b ∧ G' b = none) → ∃ A', OwnA K G' H' m (put e d') σ A' ∧ A'.Perm (Ad' ++ Ar)
structure PPl {ι : Type} (Xf : ι → Cx) (K : PySem.W.Frag) (m : List Ty) (e : Expr) (ty : Ty) (get : Gq) (put : Pf) : Prop where
  ex : ∃ te : TE, (∀ i, PE (Xf i) e te) ∧ DPl K m te ty get put
def lstTy : Ty → Bool
  | .l _ => true
  | .r _ => true
  | .d => true
  | .t => true
  | .o _ _ _ => true
  | _ => false
def pVar (j : Nat) : Pf := fun e d => e.set j d
def itemD (d : PyData) (i : PyData) : Option PyData := match d, i with
  | .list ds, .int k => atI ds k
  | _, _ => none
def setD (d : PyData) (i : PyData) (x : PyData) : PyData := match d, i with
  | .list ds, .int k => match ixN ds.length k with
    | some j => .list (ds.set j x)
    | none => d
  | _, _ => d
def gSub1 (g gi : Gq) : Gq := fun e => (g e).bind fun d => (gi e).bind fun i => itemD d i
def pSub1 (g gi : Gq) (pt : Pf) : Pf := fun e x => pt e (setD ((g e).getD .none) ((gi e).getD .none) x)
section
variable {ι : Type} {Xf : ι → Cx} {P : Program} {w : World} {K : PySem.W.Frag} {mg : Str → Option Value} {base : Heap} {n : Nat} [F : Fam Xf P w K mg base n]
variable {m m1 m2 m3 : List Ty} {pos p p2 apos cpos : Pos} {a b c : Expr} {f g gi h : Gq} {pt : Pf} {ty t : Ty} {ts : List Ty}
theorem pp_var (j : Nat) {t : Ty} {x : Str} (hm : m[j]? = some t := by rfl) (hl : lstTy t = true := by rfl) (hN : ∀ i, (Xf i).N[j]? = some x := by intro _; rfl)
    (hv : ∀ i, Vis (Xf i).env.scope x := by first | (intro _; exact Or.inl rfl) | (intro _; exact Or.inr (Or.inl rfl)) | (intro _; exact Or.inr (Or.inr rfl))) (hd : (x == ("__debug__" : Str)) = false := by decide)
    (hcd : (x == ("__classdict__" : Str)) = false := by decide) : PPl Xf K m (.Name x pos) t (qVar j) (pVar j) := by
  refine ⟨tVar j, fun i => pe_var (hN i) (hv i) hd hcd, fun {G H σ e A d} st hf => ?_⟩
  obtain ⟨d', v, Aj, A0, h1, h2, h3, h4, hp⟩ := ownA_take st.own hm
  cases hf
  have ed : e.getD j .none = d' := by rw [List.getD_eq_getElem?_getD, h1]; rfl
  rw [ed]
  have hj : (m.set j .u)[j]? = some .u := by
    have := (List.getElem?_eq_some_iff.mp hm).1
    simp [this]
  obtain ⟨a, rfl⟩ : ∃ a : Addr, v = some (.ref a) := by
    cases h3 with
    | u => cases hl
    | s => cases hl
    | e => cases hl
    | k => cases hl
    | a => cases hl
    | q => cases hl
    | d => exact ⟨_, rfl⟩
    | t => exact ⟨_, rfl⟩
    | o => exact ⟨_, rfl⟩
    | f => cases hl
    | x => cases hl
    | g => cases hl
    | l => exact ⟨_, rfl⟩
    | r => exact ⟨_, rfl⟩
  refine ⟨a, Aj, A0, hp, h3, fun {Q} k => ⟨_, h2, k H (Same.refl H)⟩, fun {G' H' d2 Ad'} sg o hr => ?_⟩
  obtain ⟨A', o', p'⟩ := ownA_put (ownA_fr h4 sg (fun b hb => (hr b hb).2) fun b hb => (hr b hb).1) hj o
  rw [List.set_set, set_id hm, set_id h2] at o'
  exact ⟨A', o', p'⟩
theorem repl_get {t : Ty} {n j : Nat} (h : j < n) : (List.replicate n t)[j]? = some t := by rw [List.getElem?_replicate, if_pos h]
theorem repl_set {t : Ty} {n j : Nat} : (List.replicate n t).set j t = List.replicate n t := by
  apply List.ext_getElem?
  intro i
  rw [List.getElem?_set]
  split
  · rename_i h; subst h; split
    · rw [List.getElem?_replicate]; simp_all
    · rw [List.getElem?_eq_none (by omega)]
  · rfl
theorem DPl.sub {te ti : TE} (hp : DPl K m te (.l t) g pt) (hi : DQv K m ti gi) (hl : lstTy t = true) : DPl K m (tOp (rIxL K) te ti) t (gSub1 g gi) (pSub1 g gi pt) := by
  intro G H σ e A d st hf
  obtain ⟨dl, h1, hf⟩ := oBs hf
  obtain ⟨di, h2, hf⟩ := oBs hf
  obtain ⟨a, Ad, Ar, hp1, o1, ev, back⟩ := hp st h1
  cases o1 with
  | @l _ _ vs ds A1 ga ha hz oA =>
    cases di with
    | int k =>
      have hf : (ixN ds.length k).bind (fun j => ds[j]?) = some d := hf
      obtain ⟨j, hj, hd⟩ := oBs hf
      have hjl : j < ds.length := (List.getElem?_eq_some_iff.mp hd).1
      obtain ⟨d', v, Aj, A0, e1, e2, oj, oR, pj⟩ := ownA_take oA (j := j) (repl_get hjl)
      rw [hd] at e1; cases e1
      have len := (ownA_len oA).2
      rw [List.length_map] at len
      have hvj : ∃ w, v = some w ∧ vs[j]? = some w := by
        rw [List.getElem?_map] at e2
        obtain ⟨w, hw, e3⟩ := Option.map_eq_some_iff.mp e2
        exact ⟨w, e3.symm, hw⟩
      obtain ⟨w, rfl, hw⟩ := hvj
      obtain ⟨b, rfl⟩ : ∃ b : Addr, w = .ref b := by
        cases oj with
        | u => cases hl
        | s => cases hl
        | e => cases hl
        | k => cases hl
        | a => cases hl
        | q => cases hl
        | d => exact ⟨_, rfl⟩
        | t => exact ⟨_, rfl⟩
        | o => exact ⟨_, rfl⟩
        | f => cases hl
        | x => cases hl
        | g => cases hl
        | l => exact ⟨_, rfl⟩
        | r => exact ⟨_, rfl⟩
      refine ⟨b, Aj, a :: (A0 ++ Ar), ?_, oj, fun {Q} kq => ?_, fun {G' H' d2 Ad'} sg o hr => ?_⟩
      · refine hp1.trans (List.perm_iff_count.mpr fun z => ?_)
        have := List.perm_iff_count.mp pj z
        simp only [List.count_append, List.count_cons, List.cons_append] at this ⊢
        omega
      · refine ev fun H1 s1 => hi (stt_grow st s1).2 h2 fun H2 x s2 q => ?_
        cases q with
        | int k =>
          refine ⟨a, vs, k, .ref b, rfl, rfl, .inl (.inl ((s1.trans s2) _ _ ha)), ?_, kq H2 (s1.trans s2)⟩
          unfold atI
          rw [len, hj]; exact hw
      · have hA0 : ∀ b ∈ A0, H' b = H b ∧ G' b = none := fun b hb => hr b (List.mem_cons_of_mem _ (List.mem_append_left _ hb))
        have hju : ((List.replicate ds.length t).set j .u)[j]? = some .u := by rw [List.getElem?_set_self (by rw [List.length_replicate]; exact hjl)]
        obtain ⟨A2, o2, p2⟩ := ownA_put (ownA_fr oR sg (fun b hb => (hA0 b hb).2) fun b hb => (hA0 b hb).1) hju o
        rw [List.set_set, repl_set, set_id e2] at o2
        have hra := hr a (List.mem_cons_self ..)
        have o3 : Own K G' H' (.l t) (.list (ds.set j d2)) (some (.ref a)) (a :: A2) := .l hra.2 (by rw [hra.1]; exact ha) hz (by rw [List.length_set]; exact o2)
        obtain ⟨A3, o4, p4⟩ := back sg o3 fun b hb => hr b (List.mem_cons_of_mem _ (List.mem_append_right _ hb))
        refine ⟨A3, ?_, p4.trans (List.perm_iff_count.mpr fun z => ?_)⟩
        · have : pSub1 g gi pt e d2 = pt e (.list (ds.set j d2)) := by
            show pt e (setD ((g e).getD .none) ((gi e).getD .none) d2) = _
            rw [h1, h2]
            show pt e (match ixN ds.length k with | some j => .list (ds.set j d2) | none => .list ds) = _
            rw [hj]
          rw [this]; exact o4
        · have := List.perm_iff_count.mp p2 z
          simp only [List.count_append, List.count_cons, List.cons_append] at this ⊢
          omega
    | _ => cases hf
theorem DPl.fld {te ti : TE} {k : Nat} (hp : DPl K m te (.r ts) g pt) (hi : DQv K m ti gi) (hk : ∀ e, gi e = some (.int (k : Nat))) (ht : ts[k]? = some t) (hl : lstTy t = true) : DPl K m (tOp (rIxL K) te ti) t (gSub1 g gi) (pSub1 g gi pt) := by
  intro G H σ e A d st hf
  obtain ⟨dl, h1, hf⟩ := oBs hf
  obtain ⟨di, h2, hf⟩ := oBs hf
  obtain ⟨a, Ad, Ar, hp1, o1, ev, back⟩ := hp st h1
  cases o1 with
  | @r _ _ vs ds A1 ga ha hz oA =>
    rw [hk e] at h2; cases h2
    have hf : (ixN ds.length ((k : Nat) : Int)).bind (fun j => ds[j]?) = some d := hf
    obtain ⟨j, hj, hd⟩ := oBs hf
    have hjk : j = k := by
      have q := ixN_seq hj
      have q1 := q.1
      rw [seqIndex_of (by omega) (by omega)] at q1
      have := Option.some.inj q1
      omega
    subst hjk
    obtain ⟨d', v, Aj, A0, e1, e2, oj, oR, pj⟩ := ownA_take oA (j := j) ht
    rw [hd] at e1; cases e1
    have len := (ownA_len oA).2
    rw [List.length_map] at len
    have hvj : ∃ w, v = some w ∧ vs[j]? = some w := by
      rw [List.getElem?_map] at e2
      obtain ⟨w, hw, e3⟩ := Option.map_eq_some_iff.mp e2
      exact ⟨w, e3.symm, hw⟩
    obtain ⟨w, rfl, hw⟩ := hvj
    obtain ⟨b, rfl⟩ : ∃ b : Addr, w = .ref b := by
      cases oj with
      | u => cases hl
      | s => cases hl
      | e => cases hl
      | k => cases hl
      | a => cases hl
      | q => cases hl
      | d => exact ⟨_, rfl⟩
      | t => exact ⟨_, rfl⟩
      | o => exact ⟨_, rfl⟩
      | f => cases hl
      | x => cases hl
      | g => cases hl
      | l => exact ⟨_, rfl⟩
      | r => exact ⟨_, rfl⟩
    refine ⟨b, Aj, a :: (A0 ++ Ar), ?_, oj, fun {Q} kq => ?_, fun {G' H' d2 Ad'} sg o hr => ?_⟩
    · refine hp1.trans (List.perm_iff_count.mpr fun z => ?_)
      have := List.perm_iff_count.mp pj z
      simp only [List.count_append, List.count_cons, List.cons_append] at this ⊢
      omega
    · refine ev fun H1 s1 => hi (stt_grow st s1).2 (hk e) fun H2 x s2 q => ?_
      cases q with
      | int =>
        refine ⟨a, vs, _, .ref b, rfl, rfl, .inl (.inl ((s1.trans s2) _ _ ha)), ?_, kq H2 (s1.trans s2)⟩
        unfold atI
        rw [len, hj]; exact hw
    · have hA0 : ∀ b ∈ A0, H' b = H b ∧ G' b = none := fun b hb => hr b (List.mem_cons_of_mem _ (List.mem_append_left _ hb))
      have hju : (ts.set j .u)[j]? = some .u := by rw [List.getElem?_set_self (List.getElem?_eq_some_iff.mp ht).1]
      obtain ⟨A2, o2, p2⟩ := ownA_put (ownA_fr oR sg (fun b hb => (hA0 b hb).2) fun b hb => (hA0 b hb).1) hju o
      rw [List.set_set, set_id ht, set_id e2] at o2
      have hra := hr a (List.mem_cons_self ..)
      have o3 : Own K G' H' (.r ts) (.list (ds.set j d2)) (some (.ref a)) (a :: A2) := .r hra.2 (by rw [hra.1]; exact ha) hz o2
      obtain ⟨A3, o4, p4⟩ := back sg o3 fun b hb => hr b (List.mem_cons_of_mem _ (List.mem_append_right _ hb))
      refine ⟨A3, ?_, p4.trans (List.perm_iff_count.mpr fun z => ?_)⟩
      · have : pSub1 g gi pt e d2 = pt e (.list (ds.set j d2)) := by
          show pt e (setD ((g e).getD .none) ((gi e).getD .none) d2) = _
          rw [h1, hk e]
          show pt e (match ixN ds.length ((j : Nat) : Int) with | some j => .list (ds.set j d2) | none => .list ds) = _
          rw [hj]
        rw [this]; exact o4
      · have := List.perm_iff_count.mp p2 z
        simp only [List.count_append, List.count_cons, List.cons_append] at this ⊢
        omega
include F in
theorem pp_fld (k : Nat) {j} {ki : Int} (hp : PPl Xf K m a (.r ts) g pt) (hk : ki = (k : Nat) := by rfl) (ht : ts[k]? = some t := by rfl) (hl : lstTy t = true := by rfl) : PPl Xf K m (.Subscript a (.Constant (.int ki) j p) pos) t (gSub1 g (qC (.int ki))) (pSub1 g (qC (.int ki)) pt) := by
  obtain ⟨ta, pa, da⟩ := hp.ex
  obtain ⟨tb, pb, db⟩ := (pq_int (Xf := Xf) (K := K) (m := m) (i := ki) (j := j) (pos := p)).ex
  exact ⟨_, fun i => by have := pe_ix (ix_list (X := Xf i)) (pa i) (pb i) (fun _ _ => rfl) (pos := pos); rw [F.kk i] at this; exact this, DPl.fld da db (fun e => by subst hk; rfl) ht hl⟩
end
end DL
namespace DL
open PySem L2 PySem.Spec
inductive Out where
  | nx | bk | ct | rt (d : PyData)
abbrev Sf := En → Option (Out × En)
structure Mk where
  b : List Ty
  c : List Ty
  r : List Ty
  po : List Nat
  ty : Ty
def Pin (po : List Nat) (σ σ' : St) : Prop := ∀ j ∈ po, σ'[j]? = σ[j]?
theorem Pin.refl {po : List Nat} {σ : St} : Pin po σ σ := fun _ _ => rfl
theorem Pin.trans {po : List Nat} {σ σ1 σ2 : St} (h : Pin po σ σ1) (k : Pin po σ1 σ2) : Pin po σ σ2 := fun j hj => (k j hj).trans (h j hj)
theorem Pin.set {po : List Nat} {σ : St} {j : Nat} {x : Option V} (h : j ∉ po) : Pin po σ (σ.set j x) := fun i hi => by rw [List.getElem?_set_ne]; intro z; exact h (z ▸ hi)
def Fin (K : PySem.W.Frag) (M : Mk) (mn : List Ty) (A : List Addr) (G H : Hp) (σ : St) (D : Ends) (e' : En) : Out → Prop
  | .nx => ∀ (G' H' : Hp) (σ' : St) (A' : List Addr), Step A G H A' G' H' → Stt K mn G' H' σ' e' A' → Pin M.po σ σ' → D.nx σ' H'
  | .bk => ∀ (G' H' : Hp) (σ' : St) (A' : List Addr), Step A G H A' G' H' → Stt K M.b G' H' σ' e' A' → Pin M.po σ σ' → D.bk σ' H'
  | .ct => ∀ (G' H' : Hp) (σ' : St) (A' : List Addr), Step A G H A' G' H' → Stt K M.c G' H' σ' e' A' → Pin M.po σ σ' → D.ct σ' H'
  | .rt d => ∀ (G' H' : Hp) (σ' : St) (v : V) (Av A' : List Addr), Step A G H (Av ++ A') G' H' → Stt K M.r G' H' σ' e' A' → Own K G' H' M.ty d (some v) Av → (Av ++ A').Nodup → Pin M.po σ σ' → D.rt v H'
def DS (K : PySem.W.Frag) (M : Mk) (m : List Ty) (t : TS) (f : Sf) (mn : List Ty) : Prop :=
  ∀ {G H : Hp} {σ : St} {e : En} {A : List Addr} {o : Out} {e' : En} {D : Ends}, Stt K m G H σ e A → f e = some (o, e') → Fin K M mn A G H σ D e' o → t D σ H
structure PSd {ι : Type} (Xf : ι → Cx) (K : PySem.W.Frag) (M : Mk) (m : List Ty) (st : Stmt) (f : Sf) (mn : List Ty) : Prop where
  ex : ∃ t : TS, (∀ i, PS (Xf i) st t) ∧ DS K M m t f mn
structure PSsd {ι : Type} (Xf : ι → Cx) (K : PySem.W.Frag) (M : Mk) (m : List Ty) (st : List Stmt) (f : Sf) (mn : List Ty) : Prop where
  ex : ∃ t : TS, (∀ i, PSs (Xf i) st t) ∧ DS K M m t f mn
class FamN {ι : Type} (Xf : ι → Cx) : Prop where
  ps : ∀ i, PassesOwn (model (Xf i).prog (Xf i).w) (Xf i).A (Xf i).env (Xf i).xe
def fuel : Nat := 1048576
def sNil : Sf := fun e => some (.nx, e)
def sSeq (f g : Sf) : Sf := fun e => (f e).bind fun p => match p.1 with
  | .nx => g p.2
  | o => some (o, p.2)
def sIf (c : Bf) (f g : Sf) : Sf := fun e => (c e).bind fun p => if p.1 = true then f p.2 else g p.2
def sRet (f : Ef) : Sf := fun e => (f e).map fun p => (.rt p.1, p.2)
def sBrk : Sf := fun e => some (.bk, e)
def sCnt : Sf := fun e => some (.ct, e)
def sRetN : Sf := fun e => some (.rt .none, e)
def sDrop (f : Ef) : Sf := fun e => (f e).map fun p => (.nx, p.2)
def sAsg (j : Nat) (f : Ef) : Sf := fun e => (f e).map fun p => (.nx, p.2.set j p.1)
def sTg (f : Ef) (g : Gf) : Sf := fun e => (f e).bind fun p => (g p.1 p.2).map fun e' => (.nx, e')
def sPar (i j : Nat) (f : Lf) : Sf := fun e => (f e).bind fun p => match p.1 with
  | [x, y] => some (.nx, (p.2.set i x).set j y)
  | _ => none
def sPar3 (i j l : Nat) (f : Lf) : Sf := fun e => (f e).bind fun p => match p.1 with
  | [x, y, z] => some (.nx, ((p.2.set i x).set j y).set l z)
  | _ => none
def forL (g : Gf) (f : Sf) : List PyData → En → Option (Out × En)
  | [], e => some (.nx, e)
  | d :: ds, e => (g d e).bind fun e1 => (f e1).bind fun p => match p.1 with
    | .nx => forL g f ds p.2
    | .ct => forL g f ds p.2
    | .bk => some (.nx, p.2)
    | .rt r => some (.rt r, p.2)
def sFor (it : Lf) (g : Gf) (f : Sf) : Sf := fun e => (it e).bind fun p => forL g f p.1 p.2
def whL (c : Bf) (f : Sf) : Nat → En → Option (Out × En)
  | 0, _ => none
  | k + 1, e => (c e).bind fun p => if p.1 = true then (f p.2).bind fun q => match q.1 with
    | .nx => whL c f k q.2
    | .ct => whL c f k q.2
    | .bk => some (.nx, q.2)
    | .rt r => some (.rt r, q.2) else some (.nx, p.2)
def sWh (fuel : Nat) (c : Bf) (f : Sf) : Sf := fun e => whL c f fuel e
section
variable {K : PySem.W.Frag} {M : Mk} {G H G1 H1 : Hp} {m m1 m2 mn : List Ty} {σ σ1 : St} {e : En} {A A1 : List Addr} {D : Ends} {e' : En} {o : Out} {t u : TS} {f g : Sf} {ef : Ef} {bf : Bf} {lf : Lf}
theorem Fin.back (s : Step A G H A1 G1 H1) (p : Pin M.po σ σ1) (h : Fin K M mn A G H σ D e' o) : Fin K M mn A1 G1 H1 σ1 D e' o := by
  cases o with
  | nx => exact fun G' H' σ' A' s' st' p' => h G' H' σ' A' (s.seq0 s') st' (p.trans p')
  | bk => exact fun G' H' σ' A' s' st' p' => h G' H' σ' A' (s.seq0 s') st' (p.trans p')
  | ct => exact fun G' H' σ' A' s' st' p' => h G' H' σ' A' (s.seq0 s') st' (p.trans p')
  | rt d => exact fun G' H' σ' v Av A' s' st' o' nd p' => h G' H' σ' v Av A' (s.seq0 s') st' o' nd (p.trans p')
theorem le_aside {v : V} {Av : List Addr} {ty : Ty} {d : PyData} (l : LeM m m1) (s : Step A G H (Av ++ A1) G1 H1) (st : Stt K m G1 H1 σ e A1) (ov : Own K G1 H1 ty d (some v) Av) (nd : (Av ++ A1).Nodup) :
    ∃ G2 A2, Step A G H (Av ++ A2) G2 H1 ∧ Stt K m1 G2 H1 σ e A2 ∧ Own K G2 H1 ty d (some v) Av ∧ (Av ++ A2).Nodup := by
  obtain ⟨G2, A2, s2, st2⟩ := stt_le l st
  obtain ⟨s3, nd3, hg, hh⟩ := s.seq (own_at ov) nd s2 st2.nd
  exact ⟨G2, A2, s3, st2, own_fr ov s2.sg hg fun _ _ => rfl, nd3⟩
theorem DS.le (h : DS K M m t f m1) (l : LeM m1 mn) : DS K M m t f mn := by
  intro G H σ e A o e' D st hf k
  refine h st hf ?_
  cases o with
  | nx =>
    intro G' H' σ' A' s' st' p'
    obtain ⟨G2, A2, s2, st2⟩ := stt_le l st'
    exact k G2 H' σ' A2 (s'.seq0 s2) st2 p'
  | bk => exact k
  | ct => exact k
  | rt d => exact k
theorem DS.pre (l : LeM m m1) (h : DS K M m1 t f mn) : DS K M m t f mn := by
  intro G H σ e A o e' D st hf k
  obtain ⟨G2, A2, s2, st2⟩ := stt_le l st
  exact h st2 hf (k.back s2 Pin.refl)
theorem DS.seq (h1 : DS K M m t f m1) (h2 : DS K M m1 u g mn) : DS K M m (tSeq t u) (sSeq f g) mn := by
  intro G H σ e A o e' D st hf k
  obtain ⟨⟨o1, e1⟩, hf1, hf⟩ := oBs hf
  refine h1 st hf1 ?_
  cases o1 with
  | nx => exact fun G' H' σ' A' s' st' p' => h2 st' hf (k.back s' p')
  | bk => cases hf; exact k
  | ct => cases hf; exact k
  | rt d => cases hf; exact k
theorem DS.nil : DS K M m tNext sNil m := fun st hf k => by cases hf; exact k _ _ _ _ Step.refl st Pin.refl
theorem DS.ite {tc : TT} (hc : DT K m tc bf m1) (h1 : DS K M m1 t f mn) (h2 : DS K M m1 u g mn) : DS K M m (tIfS tc t u) (sIf bf f g) mn := by
  intro G H σ e A o e' D st hf k
  obtain ⟨⟨b, e1⟩, hf1, hf⟩ := oBs hf
  refine hc st hf1 fun G1 H1 A1 s1 st1 => ?_
  cases b with
  | true => exact h1 st1 hf (k.back s1 Pin.refl)
  | false => exact h2 st1 hf (k.back s1 Pin.refl)
theorem DS.ret {te : TE} (he : DE K m te M.ty ef m1) (l : LeM m1 M.r) : DS K M m (tRet te) (sRet ef) mn := by
  intro G H σ e A o e' D st hf k
  obtain ⟨⟨d, e1⟩, hf1, hf⟩ := Option.map_eq_some_iff.mp hf
  cases hf
  refine he st hf1 fun G1 H1 v Av A1 s1 st1 o1 nd1 => ?_
  obtain ⟨G2, A2, s2, st2, o2, nd2⟩ := le_aside l s1 st1 o1 nd1
  exact k G2 H1 σ v Av A2 s2 st2 o2 nd2 Pin.refl
theorem DS.brk (l : LeM m M.b) : DS K M m tBreak sBrk mn := by
  intro G H σ e A o e' D st hf k
  cases hf
  obtain ⟨G2, A2, s2, st2⟩ := stt_le l st
  exact k G2 H σ A2 s2 st2 Pin.refl
theorem DS.drop {te : TE} {ty : Ty} (he : DE K m te ty ef m1) : DS K M m (tDrop te) (sDrop ef) m1 := by
  intro G H σ e A o e' D st hf k
  obtain ⟨⟨d, e1⟩, hf1, hf⟩ := Option.map_eq_some_iff.mp hf
  cases hf
  exact he st hf1 fun G1 H1 v Av A1 s1 st1 o1 nd1 => k G1 H1 σ A1 (s1.less fun a h => List.mem_append_right _ h) st1 Pin.refl
theorem DS.asg {te : TE} {ty : Ty} {j : Nat} (he : DE K m te ty ef m1) (hj : j < m1.length) (hp : j ∉ M.po) : DS K M m (tAsg te (gName j)) (sAsg j ef) (m1.set j ty) := by
  intro G H σ e A o e' D st hf k
  obtain ⟨⟨d, e1⟩, hf1, hf⟩ := Option.map_eq_some_iff.mp hf
  cases hf
  refine he st hf1 fun G1 H1 v Av A1 s1 st1 o1 nd1 => ?_
  obtain ⟨A2, st2, hA⟩ := stt_set st1 hj o1 nd1
  exact k G1 H1 _ A2 (s1.less hA) st2 (Pin.set hp)
theorem DS.tg {te : TE} {tg : TG} {gf : Gf} {sl : List Nat} (he : DE K m te .s ef m1) (hg : DG K false m1 tg sl gf m2) (hp : ∀ j ∈ M.po, j ∉ sl) : DS K M m (tAsg te tg) (sTg ef gf) m2 := by
  intro G H σ e A o e' D st hf k
  obtain ⟨⟨d, e1⟩, hf1, hf⟩ := oBs hf
  obtain ⟨e2, hf2, hf⟩ := Option.map_eq_some_iff.mp hf
  cases hf
  refine he st hf1 fun G1 H1 v Av A1 s1 st1 o1 nd1 => ?_
  cases o1 with
  | s q1 => exact hg st1 (.inl q1) hf2 fun G2 H2 σ2 A2 s2 st2 hs hl => k G2 H2 σ2 A2 (s1.seq0 s2) st2 fun j hj => hs j (hp j hj)
theorem DS.par {ta : TA} {i j : Nat} (ha : DA K m ta [.s, .s] lf m1) (hi : i < m1.length) (hj : j < m1.length) (pi : i ∉ M.po) (pj : j ∉ M.po) : DS K M m (tPar i j ta) (sPar i j lf) ((m1.set i .s).set j .s) := by
  intro G H σ e A o e' D st hf k
  obtain ⟨⟨ds, e1⟩, hf1, hf⟩ := oBs hf
  refine ha st hf1 fun G1 H1 vs Av A1 s1 st1 o1 nd1 => ?_
  obtain ⟨rfl, q⟩ := of_ownA (n := 2) o1
  match ds, hf, q with
  | [x, y], hf, q =>
    cases hf
    match vs, q with
    | [v, w], q =>
      have qv := q.head
      have qw := q.tail.head
      obtain ⟨A2, st2, hA2⟩ := stt_set st1 hi (.s qv) (Av := []) st1.nd
      obtain ⟨A3, st3, hA3⟩ := stt_set st2 (by rw [List.length_set]; exact hj) (.s qw) (Av := []) st2.nd
      exact ⟨v, w, rfl, k G1 H1 _ A3 (s1.less fun a h => hA2 a (hA3 a h)) st3 ((Pin.set pi).trans (Pin.set pj))⟩
theorem DS.for {wk : Bool} {wi : TI} {tg : TG} {gf : Gf} {sl : List Nat} {ml : List Ty} (hi : DI K wk m wi lf m1) (l1 : LeM m1 ml) (hg : DG K wk ml tg sl gf m2) (hb : DS K { M with b := mn, c := ml } m2 t f ml) (l2 : LeM ml mn) (hp : ∀ j ∈ M.po, j ∉ sl) :
    DS K M m (tFor wi tg t) (sFor lf gf f) mn := by
  intro G H σ e A o e' D st hf k
  obtain ⟨⟨ds, e1⟩, hf1, hf⟩ := oBs hf
  refine hi st hf1 fun G1 H1 A1 J s1 st1 wk hz => ?_
  obtain ⟨G2, A2, s2, st2⟩ := stt_le l1 st1
  let T := fun (i : Nat) (σc : St) (Hc : Hp) => ∃ Gc ec A', Step A G H A' Gc Hc ∧ Same G1 Gc ∧ Stt K ml Gc Hc σc ec A' ∧ Pin M.po σ σc ∧ forL gf f (ds.drop i) ec = some (o, e')
  refine ⟨fun i mm σc Hc => mm = ds.length - i ∧ i ≤ ds.length ∧ T i σc Hc, ⟨ds.length, by omega, Nat.zero_le _, G2, e1, A2, s1.seq0 s2, s2.sg, st2, Pin.refl, hf⟩, ?_⟩
  rintro i mm σc Hc ⟨rfl, hle, Gc, ec, A', sc, sg, stc, pc, hl⟩
  have sub1 : Same G1 Hc := sg.trans stc.sub
  by_cases hi : i < ds.length
  · refine .inr ⟨wk.goes i Hc hi sub1, fun σn Hn => i < ds.length ∧ T (i + 1) σn Hn, fun σn Hn hn => ⟨ds.length - (i + 1), by omega, rfl, by omega, hn.2⟩, fun x Hy hy => ?_⟩
    obtain ⟨Gy, sy, sty, sgy, qy⟩ := wk.yields hi sg stc hy
    have hd : ds.drop i = ds[i] :: ds.drop (i + 1) := List.drop_eq_getElem_cons hi
    rw [hd] at hl
    unfold forL at hl
    obtain ⟨e2, hl1, hl⟩ := oBs hl
    obtain ⟨⟨o3, e3⟩, hl2, hl⟩ := oBs hl
    refine hg sty (qy _ (List.getElem?_eq_getElem hi)) hl1 fun G3 H3 σ3 A3 s3 st3 k3 l3 => ?_
    have p3 : Pin M.po σ σ3 := pc.trans fun j hj => k3 j (hp j hj)
    have s03 := (sc.seq0 sy).seq0 s3
    refine hb st3 hl2 ?_
    cases o3 with
    | nx => exact fun G4 H4 σ4 A4 s4 st4 p4 => ⟨hi, G4, e3, A4, s03.seq0 s4, ((sg.trans sgy).trans s3.sg).trans s4.sg, st4, p3.trans p4, hl⟩
    | ct => exact fun G4 H4 σ4 A4 s4 st4 p4 => ⟨hi, G4, e3, A4, s03.seq0 s4, ((sg.trans sgy).trans s3.sg).trans s4.sg, st4, p3.trans p4, hl⟩
    | bk => cases hl; exact fun G4 H4 σ4 A4 s4 st4 p4 => k G4 H4 σ4 A4 (s03.seq0 s4) st4 (p3.trans p4)
    | rt r => cases hl; exact fun G4 H4 σ4 v Av A4 s4 st4 o4 nd4 p4 => k G4 H4 σ4 v Av A4 (s03.seq0 s4) st4 o4 nd4 (p3.trans p4)
  · have hie : i = ds.length := by omega
    subst hie
    rw [List.drop_length] at hl
    cases hl
    obtain ⟨G4, A4, s4, st4⟩ := stt_le l2 stc
    exact .inl ⟨wk.stops Hc sub1, k G4 Hc σc A4 (sc.seq0 s4) st4 pc⟩
theorem DS.wh {tc : TT} {ml : List Ty} {fuel : Nat} (l0 : LeM m ml) (hc : DT K ml tc bf m1) (hb : DS K { M with b := mn, c := ml } m1 t f ml) (l2 : LeM m1 mn) : DS K M m (tWhile tc t) (sWh fuel bf f) mn := by
  intro G H σ e A o e' D st hf k
  obtain ⟨G2, A2, s2, st2⟩ := stt_le l0 st
  refine ⟨fun i σc Hc => ∃ Gc ec A', Step A G H A' Gc Hc ∧ Stt K ml Gc Hc σc ec A' ∧ Pin M.po σ σc ∧ whL bf f i ec = some (o, e'), ⟨fuel, G2, e, A2, s2, st2, Pin.refl, hf⟩, ?_⟩
  rintro i σc Hc ⟨Gc, ec, A', sc, stc, pc, hl⟩
  cases i with
  | zero => cases hl
  | succ i =>
    unfold whL at hl
    obtain ⟨⟨b, e2⟩, hl1, hl⟩ := oBs hl
    refine hc stc hl1 fun G3 H3 A3 s3 st3 => ?_
    cases b with
    | true =>
      rw [if_pos rfl] at hl ⊢
      obtain ⟨⟨o3, e3⟩, hl2, hl⟩ := oBs hl
      refine ⟨fun σn Hn => ∃ Gc ec A', Step A G H A' Gc Hn ∧ Stt K ml Gc Hn σn ec A' ∧ Pin M.po σ σn ∧ whL bf f i ec = some (o, e'), fun σn Hn hn => ⟨i, Nat.lt_succ_self i, hn⟩, hb st3 hl2 ?_⟩
      have s03 := sc.seq0 s3
      cases o3 with
      | nx => exact fun G4 H4 σ4 A4 s4 st4 p4 => ⟨G4, e3, A4, s03.seq0 s4, st4, pc.trans p4, hl⟩
      | ct => exact fun G4 H4 σ4 A4 s4 st4 p4 => ⟨G4, e3, A4, s03.seq0 s4, st4, pc.trans p4, hl⟩
      | bk => cases hl; exact fun G4 H4 σ4 A4 s4 st4 p4 => k G4 H4 σ4 A4 (s03.seq0 s4) st4 (pc.trans p4)
      | rt r => cases hl; exact fun G4 H4 σ4 v Av A4 s4 st4 o4 nd4 p4 => k G4 H4 σ4 v Av A4 (s03.seq0 s4) st4 o4 nd4 (pc.trans p4)
    | false =>
      rw [if_neg (by simp)] at hl ⊢
      cases hl
      obtain ⟨G4, A4, s4, st4⟩ := stt_le l2 st3
      exact k G4 H3 σc A4 ((sc.seq0 s3).seq0 s4) st4 pc
end
section
variable {ι : Type} {Xf : ι → Cx} {P : Program} {w : World} {K : PySem.W.Frag} {mg : Str → Option Value} {base : Heap} {n : Nat} [F : Fam Xf P w K mg base n]
variable {M : Mk} {m m1 m2 mn ml : List Ty} {pos p p2 spos : Pos} {a b c v tg iter : Expr} {st : Stmt} {rest body orelse : List Stmt} {f g : Sf} {ef : Ef} {bf : Bf} {lf : Lf} {gf : Gf} {sl : List Nat} {ty : Ty}
theorem ss_nil : PSsd Xf K M m [] sNil m := ⟨_, fun i => pss_nil, DS.nil⟩
theorem ss_cons (h1 : PSd Xf K M m st f m1) (h2 : PSsd Xf K M m1 rest g mn) : PSsd Xf K M m (st :: rest) (sSeq f g) mn := by
  obtain ⟨t, p, d⟩ := h1.ex
  obtain ⟨u, q, d2⟩ := h2.ex
  exact ⟨_, fun i => pss_cons (p i) (q i), DS.seq d d2⟩
theorem ss_one (h1 : PSd Xf K M m st f m1) : PSsd Xf K M m [st] f m1 := by
  obtain ⟨t, p, d⟩ := h1.ex
  exact ⟨_, fun i => pss_one (p i), d⟩
theorem ss_le (h : PSsd Xf K M m rest f m1) (l : LeM m1 mn) : PSsd Xf K M m rest f mn := by
  obtain ⟨t, p, d⟩ := h.ex
  exact ⟨_, p, d.le l⟩
theorem ds_ret (he : PD Xf K m v M.ty ef m1) (l : LeM m1 M.r) : PSd Xf K M m (.Return (some v) pos) (sRet ef) mn := by
  obtain ⟨t, p, d⟩ := he.ex
  exact ⟨_, fun i => ps_ret (p i), DS.ret d l⟩
theorem ds_if (hc : PB Xf K m c bf m1) (ha : PSsd Xf K M m1 body f mn) (hb : PSsd Xf K M m1 orelse g mn) : PSd Xf K M m (.If c body orelse pos) (sIf bf f g) mn := by
  obtain ⟨t, p, d⟩ := hc.ex
  obtain ⟨t1, p1, d1⟩ := ha.ex
  obtain ⟨t2, p2, d2⟩ := hb.ex
  exact ⟨_, fun i => ps_if (p i) (p1 i) (p2 i), DS.ite d d1 d2⟩
theorem ds_drop (he : PD Xf K m v ty ef m1) (hs : ∀ i, swapsWith v none pos.line (Xf i).env = pure false := by intro _; rfl) : PSd Xf K M m (.Expr v pos) (sDrop ef) m1 := by
  obtain ⟨t, p, d⟩ := he.ex
  exact ⟨_, fun i => ps_expr (p i) (hs i), DS.drop d⟩
include F in
theorem ds_asg (j : Nat) {x : Str} {pos' : Pos} (he : PD Xf K m v ty ef m1) (hj : j < m1.length := by first | decide | rfl | simp) (hp : j ∉ M.po := by first | decide | rfl | simp) (hi : ∀ i, (Xf i).N[j]? = some x := by intro _; rfl) (hx : ∀ i, Loc (Xf i).env.scope x := by first | (intro _; exact Or.inl rfl) | (intro _; exact Or.inr rfl))
    (hs : ∀ i, swapsWith v (some (.Name x pos')) pos.line (Xf i).env = pure false := by intro _; rfl) (hf : ∀ i, (Xf i).fn x = true ∨ (Xf i).env.scope.names.lookup x = some .local := by first | (intro _; exact Or.inl rfl) | (intro _; exact Or.inr rfl)) :
    PSd Xf K M m (.Assign [.Name x pos'] v pos) (sAsg j ef) (m1.set j ty) := by
  obtain ⟨t, p, d⟩ := he.ex
  exact ⟨_, fun i => ps_set (F.nd i) (hi i) (hx i) (p i) (hs i) (hf i), DS.asg d hj hp⟩
include F in
theorem ds_par [FG : FamG Xf] (i j : Nat) {L : List (Option Nat)} {x y : Str} {px py pt pt2 : Pos} {kt k2} (ha : PAL Xf K m [a, b] [.s, .s] L lf m1) (hi : i < m1.length := by first | decide | rfl | simp) (hj : j < m1.length := by first | decide | rfl | simp) (pi : i ∉ M.po := by first | decide | rfl | simp) (pj : j ∉ M.po := by first | decide | rfl | simp) (hij : i ≠ j := by decide)
    (ni : ∀ z, (Xf z).N[i]? = some x := by intro _; rfl) (nj : ∀ z, (Xf z).N[j]? = some y := by intro _; rfl) (hx : ∀ z, (Xf z).env.scope.names.lookup x = some .local := by intro _; rfl) (hy : ∀ z, (Xf z).env.scope.names.lookup y = some .local := by intro _; rfl)
    (hw : ∀ z, swappedStores [.Tuple [.Name x px, .Name y py] kt pt] (.Tuple [a, b] k2 pt2) (Xf z).env = pure (some [x, y]) := by intro _; rfl) (hs : ∀ z, swapsWithSole [.Tuple [.Name x px, .Name y py] kt pt] (.Tuple [a, b] k2 pt2) pos.line (Xf z).env = pure false := by intro _; rfl) :
    PSd Xf K M m (.Assign [.Tuple [.Name x px, .Name y py] kt pt] (.Tuple [a, b] k2 pt2) pos) (sPar i j lf) ((m1.set i .s).set j .s) := by
  obtain ⟨t, p, d⟩ := ha.ex
  exact ⟨_, fun z => ps_par (FG.calm z) (F.nd z) (ni z) (nj z) hij (hx z) (hy z) (p z) (hw z) (hs z), DS.par (fun st hf k => d st hf fun G' H' vs Av A' s st' o nd _ => k G' H' vs Av A' s st' o nd) hi hj pi pj⟩
include F in
theorem ds_for [FG : FamG Xf] {wk : Bool} [FN : FamN Xf] (ml : List Ty) (hi : PIt Xf K wk m tg iter lf m1) (l1 : LeM m1 ml) (hg : PGD Xf K wk ml tg sl gf m2) (hb : PSsd Xf K { M with b := mn, c := ml } m2 body f ml) (l2 : LeM ml mn) (hp : ∀ j ∈ M.po, j ∉ sl := by first | decide | rfl | simp)
    (hs : ∀ i x, foldedSetIterable iter (Xf i).env x = pure x := by intro _ _; rfl) : PSd Xf K M m (.For tg iter body [] pos) (sFor lf gf f) mn := by
  obtain ⟨wi, pi, di⟩ := hi.ex
  obtain ⟨g, pg, dg⟩ := hg.ex
  obtain ⟨t, p, d⟩ := hb.ex
  exact ⟨_, fun i => ps_for (FN.ps i) (FG.calm i) (pi i) (pg i) (p i) (hs i), DS.for di l1 dg d l2 hp⟩
theorem ds_wh [FN : FamN Xf] (fuel : Nat) (ml : List Ty) (l0 : LeM m ml) (hc : PB Xf K ml c bf m1) (hb : PSsd Xf K { M with b := mn, c := ml } m1 body f ml) (l2 : LeM m1 mn) : PSd Xf K M m (.While c body [] pos) (sWh fuel bf f) mn := by
  obtain ⟨t, p, d⟩ := hc.ex
  obtain ⟨t2, p2, d2⟩ := hb.ex
  exact ⟨_, fun i => ps_while (FN.ps i) (p i) (p2 i), DS.wh l0 d d2 l2⟩
include F in
theorem ds_setLc [FG : FamG Xf] {wk : Bool} (j : Nat) {x : Str} {py : Pos} {elt : Expr} {ifs : List Expr} {scope : Scope} {tf : Bf} (own : List (Str × Nat)) (hi : PIt Xf K wk m tg iter lf m1) (hg : PGD (blkF Xf scope) K wk (hideM m1 (own.map (·.2))) tg sl gf m2) (ht : PTsD (blkF Xf scope) K m2 ifs tf) (he : PD (blkF Xf scope) K m2 elt ty ef m2)
    (ok : ∀ i, BlkOk (Xf i).N (Xf i).env.scope scope own := by intro _; exact blkOk_by (by rfl)) (us : usB m1 (own.map (·.2)) = true := by rfl) (hs : ∀ j ∈ sl, j ∈ own.map (·.2) := by decide) (le : LeM m2 (hideM m1 (own.map (·.2))) := by repeat (first | exact .nil | refine .cons (by first | exact .rfl _ | exact .u _) ?_))
    (hj : j < m1.length := by first | decide | rfl | simp) (hp : j ∉ M.po := by first | decide | rfl | simp) (hN : ∀ i, (Xf i).N[j]? = some x := by intro _; rfl) (hyl : ∀ i, (Xf i).env.scope.names.lookup x = some .local := by intro _; rfl)
    (hsw : ∀ i, swapsWith (.ListComp elt [⟨tg, iter, ifs, 0⟩] scope pos) (some (.Name x py)) spos.line (Xf i).env = pure true := by intro _; exact sw_true rfl rfl (by rfl) (by rfl))
    (hf : ∀ i x, foldedSetIterable iter (Xf i).env x = pure x := by intro _ _; rfl) : PSd Xf K M m (.Assign [.Name x py] (.ListComp elt [⟨tg, iter, ifs, 0⟩] scope pos) spos) (sAsg j (eLc lf (own.map (·.2)) gf tf ef)) (m1.set j (.l ty)) := by
  obtain ⟨wi, pi, di⟩ := hi.ex
  obtain ⟨g, pg, dg⟩ := hg.ex
  obtain ⟨tt, pt, dt⟩ := ht.ex
  obtain ⟨te, pe, de⟩ := he.ex
  exact ⟨_, fun i => ps_setLc (FG.calm i) (F.nd i) (hN i) (hyl i) (hsw i) (pi i) (ok i) (fun s H C cl fp => pg ⟨i, s, H, C, cl, fp⟩) (fun s H C cl fp => pt ⟨i, s, H, C, cl, fp⟩) (fun s H C cl fp => pe ⟨i, s, H, C, cl, fp⟩) (hf i), DS.asg (DE.lc di dg dt de us hs le) hj hp⟩
end
end DL
namespace DL
open PySem L2 PySem.Spec
def eApp (j : Nat) (f : Ef) : Ef := fun e => (f e).bind fun p => match e.getD j .none with
  | .list ds => if ds.length < sizeLine then some (.none, p.2.set j (.list (ds ++ [p.1]))) else none
  | _ => none
def eAppV (g : Gq) (pt : Pf) (gv : Gq) : Ef := fun e => (g e).bind fun d => (gv e).bind fun x => match d with
  | .list ds => if ds.length < sizeLine then some (.none, pt e (.list (ds ++ [x]))) else none
  | _ => none
def ePop (g : Gq) (pt : Pf) : Ef := fun e => (g e).bind fun d => match d with
  | .list ds => (ds[ds.length - 1]?).map fun x => (x, pt e (.list ds.dropLast))
  | _ => none
def ePopAt (g : Gq) (pt : Pf) (gi : Gq) : Ef := fun e => (g e).bind fun d => (gi e).bind fun i => match d, i with
  | .list ds, .int k => if -(2 ^ 63) ≤ k ∧ k < 2 ^ 63 then (ixN ds.length k).bind fun j => (ds[j]?).map fun x => (x, pt e (.list (ds.eraseIdx j))) else none
  | _, _ => none
def sSet (g : Gq) (pt : Pf) (gi : Gq) (f : Ef) : Sf := fun e => (f e).bind fun p => (g p.2).bind fun d => (gi p.2).bind fun i => match d, i with
  | .list ds, .int k => (ixN ds.length k).map fun j => (.nx, pt p.2 (.list (ds.set j p.1)))
  | _, _ => none
def eItm (g gi : Gq) : Ef := fun e => (g e).bind fun d => (gi e).bind fun i => (itemD d i).map fun x => (x, e)
theorem ite_some2 {α : Type} {c : Prop} [Decidable c] {a : Option α} {b : α} (h : (if c then a else none) = some b) : c ∧ a = some b := by
  split at h
  · rename_i hc; exact ⟨hc, h⟩
  · cases h
section
variable {K : PySem.W.Frag} {G H G1 H1 : Hp} {m m1 m2 mn : List Ty} {σ : St} {e : En} {A A1 : List Addr} {t : Ty} {ts : List Ty}
theorem ownA_erase {ds : List PyData} {vs : List (Option V)} {t : Ty} : ∀ {n : Nat} {ds : List PyData} {vs : List (Option V)} {A : List Addr} {j : Nat} {d : PyData}, OwnA K G H (List.replicate n t) ds vs A → ds[j]? = some d →
    ∃ v Aj A0, vs[j]? = some v ∧ Own K G H t d v Aj ∧ OwnA K G H (List.replicate (n - 1) t) (ds.eraseIdx j) (vs.eraseIdx j) A0 ∧ A.Perm (Aj ++ A0)
  | 0, _, _, _, j, d, h, hd => by cases h; simp at hd
  | n + 1, _, _, _, j, d, h, hd => by
    cases h with
    | @cons _ _ d0 ds v0 vs A B h1 h2 =>
      cases j with
      | zero =>
        simp at hd; subst hd
        exact ⟨v0, A, B, rfl, h1, by simpa using h2, List.Perm.refl _⟩
      | succ j =>
        have hd : ds[j]? = some d := by simpa using hd
        obtain ⟨v, Aj, A0, e1, o1, o2, p⟩ := ownA_erase (ds := ds) (vs := vs) h2 hd
        have hn : 0 < n := by
          have a := (ownA_len h2).1
          rw [List.length_replicate] at a
          have := (List.getElem?_eq_some_iff.mp hd).1
          omega
        refine ⟨v, Aj, A ++ A0, by simpa using e1, o1, ?_, ?_⟩
        · have := OwnA.cons h1 o2
          rw [← List.replicate_succ, show n - 1 + 1 = n by omega] at this
          simpa using this
        · exact (List.Perm.append_left A p).trans (by rw [← List.append_assoc, ← List.append_assoc]; exact List.Perm.append_right _ List.perm_append_comm)
theorem replicate_snoc {n : Nat} {t : Ty} : List.replicate n t ++ [t] = List.replicate (n + 1) t := by rw [List.replicate_succ']
theorem DE.app {te : TE} {f : Ef} {j : Nat} (hm : m[j]? = some (.l t)) (he : DE K (m.set j .u) te t f m1) (hm1 : m1[j]? = some .u) : DE K m (tBM K "list" rAppend (tVar j) (tCons te tNil)) .s (eApp j f) (m1.set j (.l t)) := by
  intro G H σ e A d e' Q st hf k
  obtain ⟨⟨dx, e1⟩, hf1, hf⟩ := oBs hf
  obtain ⟨dj, vj, Aj, A0, h1, h2, h3, h4, hp⟩ := ownA_take st.own hm
  have nd := hp.nodup_iff.mp st.nd
  have st0 : Stt K (m.set j .u) G H σ e A0 := ⟨h4, (List.nodup_append.mp nd).2.1, st.sub⟩
  cases h3 with
  | @l _ a vs ds Ai ga ha hz oi =>
    have ed : e.getD j .none = .list ds := by rw [List.getD_eq_getElem?_getD, h1]; rfl
    rw [ed] at hf
    obtain ⟨hlt, hf⟩ := ite_some hf
    cases hf
    refine ⟨.ref a, h2, .inl ⟨rfl, _, .inl (.inl ha)⟩, ?_⟩
    refine he st0 hf1 fun G1 H1 x Av A1 s1 st1 ov ndv => ?_
    have s0 : Step A G H ((a :: Ai) ++ A0) G H := ⟨Same.refl G, fun _ _ h _ => h, fun b hb => .inl (hp.mem_iff.mpr hb), fun b h ⟨o, z⟩ => by rw [h] at z; cases z⟩
    have oj : Own K G H (.l t) (.list ds) (some (.ref a)) (a :: Ai) := .l ga ha hz oi
    obtain ⟨s2, nd2, hg, hh⟩ := s0.seq (own_at oj) nd s1 ndv
    have ha1 : H1 a = some (.lst vs) := by rw [hh a (List.mem_cons_self ..)]; exact ha
    have ga1 : G1 a = none := hg a (List.mem_cons_self ..)
    have oi1 := ownA_fr oi s1.sg (fun b hb => hg b (List.mem_cons_of_mem _ hb)) fun b hb => hh b (List.mem_cons_of_mem _ hb)
    have len : vs.length = ds.length := by have := (ownA_len oi).2; simpa using this
    refine ⟨a, vs, x, rfl, rfl, ha1, by omega, ?_⟩
    have nda : a ∉ Ai ++ (Av ++ A1) := by
      have := nd2
      rw [List.cons_append] at this
      exact (List.nodup_cons.mp this).1
    have fr : ∀ b, b ≠ a → upd H1 a (.lst (vs ++ [x])) b = H1 b := fun b hb => upd_ne hb
    have ne : ∀ b ∈ Ai ++ (Av ++ A1), b ≠ a := fun b hb z => nda (z ▸ hb)
    have i1 := ownA_fr (H' := upd H1 a (.lst (vs ++ [x]))) oi1 (Same.refl G1) (fun b hb => (ownA_at oi1 b hb).1) fun b hb => fr b (ne b (List.mem_append_left _ hb))
    have i2 := own_fr (H' := upd H1 a (.lst (vs ++ [x]))) ov (Same.refl G1) (fun b hb => (own_at ov b hb).1) fun b hb => fr b (ne b (List.mem_append_right _ (List.mem_append_left _ hb)))
    have i3 := ownA_snoc i1 i2
    rw [replicate_snoc] at i3
    have oN : Own K G1 (upd H1 a (.lst (vs ++ [x]))) (.l t) (.list (ds ++ [dx])) (some (.ref a)) (a :: (Ai ++ Av)) := .l ga1 upd_same (by rw [List.length_append, List.length_singleton]; omega) (by rw [List.length_append, List.length_singleton, List.map_append]; exact i3)
    have i4 := ownA_fr (H' := upd H1 a (.lst (vs ++ [x]))) st1.own (Same.refl G1) (fun b hb => (ownA_at st1.own b hb).1) fun b hb => fr b (ne b (List.mem_append_right _ (List.mem_append_right _ hb)))
    obtain ⟨A2, o2, p2⟩ := ownA_put i4 hm1 oN
    rw [set_id (l := σ) h2] at o2
    have pA : A2.Perm ((a :: Ai) ++ (Av ++ A1)) := p2.trans (List.perm_iff_count.mpr fun z => by simp only [List.count_append, List.count_cons, List.cons_append]; omega)
    refine k G1 _ .non [] A2 ⟨s2.sg, fun b o hb hbA => ?_, fun b hb => s2.own b (pA.mem_iff.mp hb), s2.gnew⟩ ⟨o2, pA.nodup_iff.mpr nd2, fun b o hb => ?_⟩ (.s .non) (pA.nodup_iff.mpr nd2)
    · rw [fr b (fun z => hbA (z ▸ hp.mem_iff.mpr (List.mem_append_left _ (List.mem_cons_self ..))))]
      exact s2.fr b o hb hbA
    · rw [fr b (ne_of_none hb ga1)]; exact st1.sub b o hb
theorem pl_wrote {a : Addr} {Ad Ar Ad' : List Addr} {pt : Pf} {ty : Ty} {d d' : PyData} {H2 : Hp} {u : HO} (st : Stt K m G H σ e A) (hp : A.Perm (Ad ++ Ar)) (o1 : Own K G H ty d (some (.ref a)) Ad)
    (back : ∀ {G' H' : Hp} {d' : PyData} {Ad' : List Addr}, Same G G' → Own K G' H' ty d' (some (.ref a)) Ad' → (∀ b ∈ Ar, H' b = H b ∧ G' b = none) → ∃ A', OwnA K G' H' m (pt e d') σ A' ∧ A'.Perm (Ad' ++ Ar))
    (s : Same H H2) (hin : a ∈ Ad) (o2 : Own K G (upd H2 a u) ty d' (some (.ref a)) Ad') (sub : ∀ b ∈ Ad', b ∈ Ad) (nd' : Ad'.Nodup) :
    ∃ A', Step A G H A' G (upd H2 a u) ∧ Stt K m G (upd H2 a u) σ (pt e d') A' ∧ ∀ b ∈ A', b ∈ Ad' ++ Ar := by
  have nd := hp.nodup_iff.mp st.nd
  have n := List.nodup_append.mp nd
  have ga : G a = none := (own_at o1 a hin).1
  have atA : ∀ b ∈ A, G b = none ∧ ∃ o, H b = some o := ownA_at st.own
  obtain ⟨A', oA, pA⟩ := back (Same.refl G) o2 fun b hb => by
    have hbA := hp.mem_iff.mpr (List.mem_append_right Ad hb)
    obtain ⟨gb, o, ho⟩ := atA b hbA
    refine ⟨?_, gb⟩
    rw [upd_ne (fun z => n.2.2 a hin b hb z.symm), s b o ho, ho]
  have ndA : A'.Nodup := pA.nodup_iff.mpr (List.nodup_append.mpr ⟨nd', n.2.1, fun x hx y hy z => n.2.2 x (sub x hx) y hy z⟩)
  have inA : ∀ b ∈ A', b ∈ A := fun b hb => hp.mem_iff.mpr ((List.mem_append.mp (pA.mem_iff.mp hb)).elim (fun z => List.mem_append_left _ (sub b z)) fun z => List.mem_append_right _ z)
  refine ⟨A', ⟨Same.refl G, fun b o hb hbA => ?_, fun b hb => .inl (inA b hb), fun b h1 ⟨o, h2⟩ => by rw [h1] at h2; cases h2⟩, ⟨oA, ndA, fun b o hb => ?_⟩, fun b hb => pA.mem_iff.mp hb⟩
  · have hne : b ≠ a := fun z => hbA (by rw [z]; exact hp.mem_iff.mpr (List.mem_append_left _ hin))
    rw [upd_ne hne]; exact s b o hb
  · rw [upd_ne (ne_of_none hb ga)]; exact s b o (st.sub b o hb)
theorem DE.pop {te : TE} {g : Gq} {pt : Pf} (hp : DPl K m te (.l t) g pt) : DE K m (tBM0 K "list" rPop te) t (ePop g pt) m := by
  intro G H σ e A d e' Q st hf k
  obtain ⟨dl, h1, hf⟩ := oBs hf
  obtain ⟨a, Ad, Ar, hp1, o1, ev, back⟩ := hp st h1
  have o1' := o1
  cases o1 with
  | @l _ _ vs ds Ai ga ha hz oi =>
    obtain ⟨x, hx, hf⟩ := Option.map_eq_some_iff.mp hf
    cases hf
    have len : vs.length = ds.length := by have := (ownA_len oi).2; simpa using this
    obtain ⟨v, Aj, A0, e1, oj, o0, pj⟩ := ownA_erase (ds := ds) (vs := vs.map some) oi hx
    rw [List.getElem?_map] at e1
    obtain ⟨w, hw, e2⟩ := Option.map_eq_some_iff.mp e1
    subst e2
    refine ev fun H1 s1 => ⟨.inl ⟨rfl, _, .inl (.inl (s1 _ _ ha))⟩, a, vs, w, rfl, rfl, s1 _ _ ha, by rw [len]; exact hw, ?_⟩
    have nd := hp1.nodup_iff.mp st.nd
    have n := List.nodup_append.mp nd
    have n1 := List.nodup_cons.mp n.1
    have n2 := List.nodup_append.mp (pj.nodup_iff.mp n1.2)
    have inI : ∀ b, b ∈ Aj ++ A0 → b ∈ Ai := fun b hb => pj.mem_iff.mpr hb
    have hfr : ∀ b ∈ Ai, upd H1 a (.lst vs.dropLast) b = H b := fun b hb => by
      obtain ⟨_, o, ho⟩ := ownA_at oi b hb
      have hne : b ≠ a := fun z => n1.1 (by rw [← z]; exact hb)
      rw [upd_ne hne, s1 b o ho, ho]
    have gfr : ∀ b ∈ Ai, G b = none := fun b hb => (ownA_at oi b hb).1
    have hne : ds ≠ [] := fun z => by rw [z] at hx; simp at hx
    have edr : ds.eraseIdx (ds.length - 1) = ds.dropLast := by rw [List.eraseIdx_eq_take_drop_succ, show ds.length - 1 + 1 = ds.length by have := List.length_pos_iff.mpr hne; omega, List.drop_length, List.append_nil, ← List.dropLast_eq_take]
    have evr : (vs.map some).eraseIdx (ds.length - 1) = vs.dropLast.map some := by
      rw [← len, List.eraseIdx_eq_take_drop_succ]
      have : vs.length - 1 + 1 = vs.length := by have := List.length_pos_iff.mpr hne; omega
      rw [this, List.drop_eq_nil_of_le (by simp), List.append_nil, List.dropLast_eq_take, List.map_take]
    rw [edr, evr] at o0
    have oN : Own K G (upd H1 a (.lst vs.dropLast)) (.l t) (.list ds.dropLast) (some (.ref a)) (a :: A0) := .l ga upd_same (by rw [List.length_dropLast]; omega) (by
      rw [List.length_dropLast]
      exact ownA_fr o0 (Same.refl G) (fun b hb => gfr b (inI b (List.mem_append_right _ hb))) fun b hb => hfr b (inI b (List.mem_append_right _ hb)))
    obtain ⟨A2, s3, st3, inA⟩ := pl_wrote (u := .lst vs.dropLast) (Ad' := a :: A0) st hp1 o1' back s1 (List.mem_cons_self ..) oN (fun b hb => by
      rcases List.mem_cons.mp hb with z | z
      · rw [z]; exact List.mem_cons_self ..
      · exact List.mem_cons_of_mem _ (inI b (List.mem_append_right _ z))) (List.nodup_cons.mpr ⟨fun z => n1.1 (inI _ (List.mem_append_right _ z)), n2.2.1⟩)
    have oj2 := own_fr (H' := upd H1 a (.lst vs.dropLast)) oj (Same.refl G) (fun b hb => gfr b (inI b (List.mem_append_left _ hb))) fun b hb => hfr b (inI b (List.mem_append_left _ hb))
    refine k G _ w Aj A2 ⟨s3.sg, s3.fr, fun b hb => ?_, s3.gnew⟩ st3 oj2 ?_
    · rcases List.mem_append.mp hb with z | z
      · exact .inl (hp1.mem_iff.mpr (List.mem_append_left _ (List.mem_cons_of_mem _ (inI b (List.mem_append_left _ z)))))
      · exact s3.own b z
    · refine List.nodup_append.mpr ⟨n2.1, st3.nd, fun x hx y hy z => ?_⟩
      subst z
      rcases List.mem_append.mp (inA x hy) with q | q
      · rcases List.mem_cons.mp q with q | q
        · exact n1.1 (q ▸ inI x (List.mem_append_left _ hx))
        · exact n2.2.2 x hx x q rfl
      · exact n.2.2 x (List.mem_cons_of_mem _ (inI x (List.mem_append_left _ hx))) x q rfl
theorem DE.popAt {te ti : TE} {g gi : Gq} {pt : Pf} (hp : DPl K m te (.l t) g pt) (hi : DQv K m ti gi) : DE K m (tBM K "list" rPopAt te (tCons ti tNil)) t (ePopAt g pt gi) m := by
  intro G H σ e A d e' Q st hf k
  obtain ⟨dl, h1, hf⟩ := oBs hf
  obtain ⟨di, h2, hf⟩ := oBs hf
  obtain ⟨a, Ad, Ar, hp1, o1, ev, back⟩ := hp st h1
  have o1' := o1
  cases o1 with
  | @l _ _ vs ds Ai ga ha hz oi =>
    cases di with
    | int i =>
      obtain ⟨hr, hf⟩ := ite_some2 hf
      obtain ⟨j, hj, hf⟩ := oBs hf
      obtain ⟨x, hx, hf⟩ := Option.map_eq_some_iff.mp hf
      cases hf
      have len : vs.length = ds.length := by have := (ownA_len oi).2; simpa using this
      obtain ⟨v, Aj, A0, e1, oj, o0, pj⟩ := ownA_erase (ds := ds) (vs := vs.map some) oi hx
      rw [List.getElem?_map] at e1
      obtain ⟨w, hw, e2⟩ := Option.map_eq_some_iff.mp e1
      subst e2
      refine ev fun H1 s1 => ⟨.inl ⟨rfl, _, .inl (.inl (s1 _ _ ha))⟩, hi (stt_grow st s1).2 h2 fun H2 y s2 qy => ?_⟩
      cases qy
      have s12 := s1.trans s2
      refine ⟨a, vs, i, j, w, rfl, rfl, s12 _ _ ha, hr.1, hr.2, by rw [len]; exact (ixN_seq hj).1, hw, ?_⟩
      have nd := hp1.nodup_iff.mp st.nd
      have n := List.nodup_append.mp nd
      have n1 := List.nodup_cons.mp n.1
      have n2 := List.nodup_append.mp (pj.nodup_iff.mp n1.2)
      have inI : ∀ b, b ∈ Aj ++ A0 → b ∈ Ai := fun b hb => pj.mem_iff.mpr hb
      have hfr : ∀ b ∈ Ai, upd H2 a (.lst (vs.eraseIdx j)) b = H b := fun b hb => by
        obtain ⟨_, o, ho⟩ := ownA_at oi b hb
        have hne : b ≠ a := fun z => n1.1 (by rw [← z]; exact hb)
        rw [upd_ne hne, s12 b o ho, ho]
      have gfr : ∀ b ∈ Ai, G b = none := fun b hb => (ownA_at oi b hb).1
      have hjl : j < ds.length := (List.getElem?_eq_some_iff.mp hx).1
      have evr : (vs.map some).eraseIdx j = (vs.eraseIdx j).map some := by
        rw [List.eraseIdx_eq_take_drop_succ, List.eraseIdx_eq_take_drop_succ, List.map_append, List.map_take, List.map_drop]
      rw [evr] at o0
      have oN : Own K G (upd H2 a (.lst (vs.eraseIdx j))) (.l t) (.list (ds.eraseIdx j)) (some (.ref a)) (a :: A0) := .l ga upd_same (by have := len_erase vs j; omega) (by
        rw [List.length_eraseIdx, if_pos hjl]
        exact ownA_fr o0 (Same.refl G) (fun b hb => gfr b (inI b (List.mem_append_right _ hb))) fun b hb => hfr b (inI b (List.mem_append_right _ hb)))
      obtain ⟨A2, s3, st3, inA⟩ := pl_wrote (u := .lst (vs.eraseIdx j)) (Ad' := a :: A0) st hp1 o1' back s12 (List.mem_cons_self ..) oN (fun b hb => by
        rcases List.mem_cons.mp hb with z | z
        · rw [z]; exact List.mem_cons_self ..
        · exact List.mem_cons_of_mem _ (inI b (List.mem_append_right _ z))) (List.nodup_cons.mpr ⟨fun z => n1.1 (inI _ (List.mem_append_right _ z)), n2.2.1⟩)
      have oj2 := own_fr (H' := upd H2 a (.lst (vs.eraseIdx j))) oj (Same.refl G) (fun b hb => gfr b (inI b (List.mem_append_left _ hb))) fun b hb => hfr b (inI b (List.mem_append_left _ hb))
      refine k G _ w Aj A2 ⟨s3.sg, s3.fr, fun b hb => ?_, s3.gnew⟩ st3 oj2 ?_
      · rcases List.mem_append.mp hb with z | z
        · exact .inl (hp1.mem_iff.mpr (List.mem_append_left _ (List.mem_cons_of_mem _ (inI b (List.mem_append_left _ z)))))
        · exact s3.own b z
      · refine List.nodup_append.mpr ⟨n2.1, st3.nd, fun x hx y hy z => ?_⟩
        subst z
        rcases List.mem_append.mp (inA x hy) with q | q
        · rcases List.mem_cons.mp q with q | q
          · exact n1.1 (q ▸ inI x (List.mem_append_left _ hx))
          · exact n2.2.2 x hx x q rfl
        · exact n.2.2 x (List.mem_cons_of_mem _ (inI x (List.mem_append_left _ hx))) x q rfl
    | _ => cases hf
end
end DL
namespace DL
open PySem L2 PySem.Spec
section
variable {K : PySem.W.Frag} {G H G1 H1 : Hp} {m m1 m2 mn : List Ty} {σ : St} {e : En} {A A1 : List Addr} {t : Ty} {ts : List Ty} {M : Mk}
theorem pl_wrote2 {a : Addr} {Av Ad Ar Ad' : List Addr} {pt : Pf} {ty tv : Ty} {d d' dv : PyData} {v : Option V} {H2 : Hp} {u : HO} (s1 : Step A G H (Av ++ A1) G1 H1) (st : Stt K m G1 H1 σ e A1) (ov : Own K G1 H1 tv dv v Av) (ndv : (Av ++ A1).Nodup) (hp : A1.Perm (Ad ++ Ar)) (o1 : Own K G1 H1 ty d (some (.ref a)) Ad)
    (back : ∀ {G' H' : Hp} {d' : PyData} {Ad' : List Addr}, Same G1 G' → Own K G' H' ty d' (some (.ref a)) Ad' → (∀ b ∈ Ar, H' b = H1 b ∧ G' b = none) → ∃ A', OwnA K G' H' m (pt e d') σ A' ∧ A'.Perm (Ad' ++ Ar))
    (s : Same H1 H2) (hin : a ∈ Ad) (o2 : Own K G1 (upd H2 a u) ty d' (some (.ref a)) Ad') (sub : ∀ b ∈ Ad', b ∈ Av ∨ b ∈ Ad) (nd' : Ad'.Nodup) :
    ∃ A', Step A G H A' G1 (upd H2 a u) ∧ Stt K m G1 (upd H2 a u) σ (pt e d') A' := by
  have nv := List.nodup_append.mp ndv
  have nd := hp.nodup_iff.mp nv.2.1
  have n := List.nodup_append.mp nd
  have ga : G1 a = none := (own_at o1 a hin).1
  have haA : a ∈ A1 := hp.mem_iff.mpr (List.mem_append_left _ hin)
  obtain ⟨A', oA, pA⟩ := back (Same.refl G1) o2 fun b hb => by
    have hbA := hp.mem_iff.mpr (List.mem_append_right Ad hb)
    obtain ⟨gb, o, ho⟩ := ownA_at st.own b hbA
    have hne : b ≠ a := fun z => n.2.2 a hin b hb z.symm
    refine ⟨?_, gb⟩
    rw [upd_ne hne, s b o ho, ho]
  have ndA : A'.Nodup := pA.nodup_iff.mpr (List.nodup_append.mpr ⟨nd', n.2.1, fun x hx y hy z => by
    rcases sub x hx with q | q
    · exact nv.2.2 x q y (hp.mem_iff.mpr (List.mem_append_right _ hy)) z
    · exact n.2.2 x q y hy z⟩)
  have inA : ∀ b ∈ A', b ∈ Av ++ A1 := fun b hb => by
    rcases List.mem_append.mp (pA.mem_iff.mp hb) with z | z
    · rcases sub b z with q | q
      · exact List.mem_append_left _ q
      · exact List.mem_append_right _ (hp.mem_iff.mpr (List.mem_append_left _ q))
    · exact List.mem_append_right _ (hp.mem_iff.mpr (List.mem_append_right _ z))
  refine ⟨A', ⟨s1.sg, fun b o hb hbA => ?_, fun b hb => s1.own b (inA b hb), s1.gnew⟩, ⟨oA, ndA, fun b o hb => ?_⟩⟩
  · have hne : b ≠ a := fun z => by
      rcases s1.own a (List.mem_append_right _ haA) with q | q
      · exact hbA (by rw [z]; exact q)
      · rw [← z, hb] at q; cases q
    rw [upd_ne hne]; exact s b o (s1.fr b o hb hbA)
  · rw [upd_ne (ne_of_none hb ga)]; exact s b o (st.sub b o hb)
theorem own_set {n j : Nat} {ts : List Ty} {ds : List PyData} {vs : List V} {Ai Av : List Addr} {dx : PyData} {x : V} {H3 : Hp} (oi : OwnA K G H ts ds (vs.map some) Ai) (ht : ts[j]? = some t) (ov : Own K G H t dx (some x) Av)
    (hf : ∀ b ∈ Ai, H3 b = H b) (hv : ∀ b ∈ Av, H3 b = H b) : ∃ A2, OwnA K G H3 ts (ds.set j dx) ((vs.set j x).map some) A2 ∧ ∃ A0 Aj : List Addr, A2.Perm (Av ++ A0) ∧ Ai.Perm (Aj ++ A0) := by
  obtain ⟨d0, v0, Aj, A0, e1, e2, oj, oR, pj⟩ := ownA_take oi ht
  have hu : (ts.set j .u)[j]? = some .u := by rw [List.getElem?_set_self (List.getElem?_eq_some_iff.mp ht).1]
  have inI : ∀ b ∈ A0, b ∈ Ai := fun b hb => pj.mem_iff.mpr (List.mem_append_right _ hb)
  obtain ⟨A2, o2, p2⟩ := ownA_put (ownA_fr (H' := H3) oR (Same.refl G) (fun b hb => (ownA_at oi b (inI b hb)).1) fun b hb => hf b (inI b hb)) hu (own_fr (H' := H3) ov (Same.refl G) (fun b hb => (own_at ov b hb).1) hv)
  rw [List.set_set, set_id ht] at o2
  exact ⟨A2, by rw [List.map_set]; exact o2, A0, Aj, p2, pj⟩
theorem DS.setL {tv to ti : TE} {f : Ef} {g gi : Gq} {pt : Pf} (hv : DE K m tv t f m1) (hp : DPl K m1 to (.l t) g pt) (hi : DQv K m1 ti gi) (pn : ∀ {σ : St}, Pin M.po σ σ) : DS K M m (tAsg tv (L2.gSub to ti rSetL)) (sSet g pt gi f) m1 := by
  intro G H σ e A o e' D st hf k
  obtain ⟨⟨dx, e1⟩, hf0, hf⟩ := oBs hf
  obtain ⟨dl, h1, hf⟩ := oBs hf
  obtain ⟨di, h2, hf⟩ := oBs hf
  refine hv st hf0 fun G1 H1 x Av A1 s1 st1 ov ndv => ?_
  obtain ⟨a, Ad, Ar, hp1, o1, ev, back⟩ := hp st1 h1
  have o1' := o1
  cases o1 with
  | @l _ _ vs ds Ai ga ha hz oi =>
    cases di with
    | int i =>
      obtain ⟨j, hj, hf⟩ := Option.map_eq_some_iff.mp hf
      cases hf
      have len : vs.length = ds.length := by have := (ownA_len oi).2; simpa using this
      have hjl : j < ds.length := (ixN_seq hj).2.1
      refine ev fun H2 sH2 => hi (stt_grow st1 sH2).2 h2 fun H3 y sH3 qy => ?_
      cases qy
      have s13 := sH2.trans sH3
      refine ⟨a, vs, i, j, rfl, rfl, s13 _ _ ha, by rw [len]; exact hj, ?_⟩
      have nv := List.nodup_append.mp ndv
      have nd := hp1.nodup_iff.mp nv.2.1
      have n := List.nodup_append.mp nd
      have n1 := List.nodup_cons.mp n.1
      have haA : a ∈ A1 := hp1.mem_iff.mpr (List.mem_append_left _ (List.mem_cons_self ..))
      have fr1 : ∀ b, b ≠ a → (∃ o, H1 b = some o) → upd H3 a (.lst (vs.set j x)) b = H1 b := fun b hb ⟨o, ho⟩ => by rw [upd_ne hb, s13 b o ho, ho]
      obtain ⟨A2, o2, A0, Aj, p2, pj⟩ := own_set (n := 0) (H3 := upd H3 a (.lst (vs.set j x))) oi (repl_get hjl) ov (fun b hb => fr1 b (fun z => n1.1 (by rw [← z]; exact hb)) (ownA_at oi b hb).2)
        (fun b hb => fr1 b (fun z => nv.2.2 b hb a haA z) (own_at ov b hb).2)
      have nj := List.nodup_append.mp (pj.nodup_iff.mp n1.2)
      have in2 : ∀ b ∈ A2, b ∈ Av ∨ b ∈ Ai := fun b hb => (List.mem_append.mp (p2.mem_iff.mp hb)).imp id fun z => pj.mem_iff.mpr (List.mem_append_right _ z)
      have nd2 : A2.Nodup := p2.nodup_iff.mpr (List.nodup_append.mpr ⟨nv.1, nj.2.1, fun x hx y hy z => nv.2.2 x hx y (hp1.mem_iff.mpr (List.mem_append_left _ (List.mem_cons_of_mem _ (pj.mem_iff.mpr (List.mem_append_right _ hy))))) z⟩)
      obtain ⟨A', s4, st4⟩ := pl_wrote2 (u := .lst (vs.set j x)) (Ad' := a :: A2) s1 st1 ov ndv hp1 o1' back s13 (List.mem_cons_self ..) (.l ga upd_same (by rw [List.length_set]; exact hz) (by rw [List.length_set]; exact o2)) (fun b hb => by
        rcases List.mem_cons.mp hb with z | z
        · rw [z]; exact .inr (List.mem_cons_self ..)
        · exact (in2 b z).imp id fun z => List.mem_cons_of_mem _ z) (List.nodup_cons.mpr ⟨fun z => by
          rcases in2 a z with q | q
          · exact nv.2.2 a q a haA rfl
          · exact n1.1 q, nd2⟩)
      exact k G1 _ σ A' s4 st4 pn
    | _ => cases hf
theorem DS.setR {tv to ti : TE} {f : Ef} {g gi : Gq} {pt : Pf} {c : Nat} (hv : DE K m tv t f m1) (hp : DPl K m1 to (.r ts) g pt) (hi : DQv K m1 ti gi) (hc : ∀ e, gi e = some (.int (c : Nat))) (ht : ts[c]? = some t) (pn : ∀ {σ : St}, Pin M.po σ σ) : DS K M m (tAsg tv (L2.gSub to ti rSetL)) (sSet g pt gi f) m1 := by
  intro G H σ e A o e' D st hf k
  obtain ⟨⟨dx, e1⟩, hf0, hf⟩ := oBs hf
  obtain ⟨dl, h1, hf⟩ := oBs hf
  obtain ⟨di, h2, hf⟩ := oBs hf
  refine hv st hf0 fun G1 H1 x Av A1 s1 st1 ov ndv => ?_
  obtain ⟨a, Ad, Ar, hp1, o1, ev, back⟩ := hp st1 h1
  have o1' := o1
  cases o1 with
  | @r _ _ vs ds Ai ga ha hz oi =>
    rw [hc] at h2; cases h2
    obtain ⟨j, hj, hf⟩ := Option.map_eq_some_iff.mp hf
    cases hf
    have hjk : j = c := by
      have q := ixN_seq hj
      have q1 := q.1
      rw [seqIndex_of (by omega) (by omega)] at q1
      have := Option.some.inj q1
      omega
    subst hjk
    have len : vs.length = ds.length := by have := (ownA_len oi).2; simpa using this
    refine ev fun H2 sH2 => hi (stt_grow st1 sH2).2 (hc e1) fun H3 y sH3 qy => ?_
    cases qy
    have s13 := sH2.trans sH3
    refine ⟨a, vs, _, j, rfl, rfl, s13 _ _ ha, by rw [len]; exact hj, ?_⟩
    have nv := List.nodup_append.mp ndv
    have nd := hp1.nodup_iff.mp nv.2.1
    have n := List.nodup_append.mp nd
    have n1 := List.nodup_cons.mp n.1
    have haA : a ∈ A1 := hp1.mem_iff.mpr (List.mem_append_left _ (List.mem_cons_self ..))
    have fr1 : ∀ b, b ≠ a → (∃ o, H1 b = some o) → upd H3 a (.lst (vs.set j x)) b = H1 b := fun b hb ⟨o, ho⟩ => by rw [upd_ne hb, s13 b o ho, ho]
    obtain ⟨A2, o2, A0, Aj, p2, pj⟩ := own_set (n := 0) (H3 := upd H3 a (.lst (vs.set j x))) oi ht ov (fun b hb => fr1 b (fun z => n1.1 (by rw [← z]; exact hb)) (ownA_at oi b hb).2)
      (fun b hb => fr1 b (fun z => nv.2.2 b hb a haA z) (own_at ov b hb).2)
    have nj := List.nodup_append.mp (pj.nodup_iff.mp n1.2)
    have in2 : ∀ b ∈ A2, b ∈ Av ∨ b ∈ Ai := fun b hb => (List.mem_append.mp (p2.mem_iff.mp hb)).imp id fun z => pj.mem_iff.mpr (List.mem_append_right _ z)
    have nd2 : A2.Nodup := p2.nodup_iff.mpr (List.nodup_append.mpr ⟨nv.1, nj.2.1, fun x hx y hy z => nv.2.2 x hx y (hp1.mem_iff.mpr (List.mem_append_left _ (List.mem_cons_of_mem _ (pj.mem_iff.mpr (List.mem_append_right _ hy))))) z⟩)
    obtain ⟨A', s4, st4⟩ := pl_wrote2 (u := .lst (vs.set j x)) (Ad' := a :: A2) s1 st1 ov ndv hp1 o1' back s13 (List.mem_cons_self ..) (.r ga upd_same (by rw [List.length_set]; exact hz) o2) (fun b hb => by
      rcases List.mem_cons.mp hb with z | z
      · rw [z]; exact .inr (List.mem_cons_self ..)
      · exact (in2 b z).imp id fun z => List.mem_cons_of_mem _ z) (List.nodup_cons.mpr ⟨fun z => by
        rcases in2 a z with q | q
        · exact nv.2.2 a q a haA rfl
        · exact n1.1 q, nd2⟩)
    exact k G1 _ σ A' s4 st4 pn
theorem DE.itm {te ti : TE} {g gi : Gq} {pt : Pf} (hp : DPl K m te (.l .s) g pt) (hi : DQv K m ti gi) : DE K m (tOp (rIxL K) te ti) .s (eItm g gi) m := by
  intro G H σ e A d e' Q st hf k
  obtain ⟨dl, h1, hf⟩ := oBs hf
  obtain ⟨di, h2, hf⟩ := oBs hf
  obtain ⟨a, Ad, Ar, hp1, o1, ev, back⟩ := hp st h1
  cases o1 with
  | @l _ _ vs ds Ai ga ha hz oi =>
    cases di with
    | int i =>
      obtain ⟨x, hx, hf⟩ := Option.map_eq_some_iff.mp hf
      cases hf
      obtain ⟨j, hj, hx⟩ := oBs (show (ixN ds.length i).bind _ = _ from hx)
      obtain ⟨rfl, qi⟩ := of_ownA oi
      obtain ⟨v, hv, qv⟩ := qi.get hx
      refine ev fun H1 s1 => hi (stt_grow st s1).2 h2 fun H2 y s2 qy => ?_
      cases qy
      have s12 := s1.trans s2
      exact ⟨a, vs, i, v, rfl, rfl, .inl (.inl (s12 _ _ ha)), by unfold atI; rw [qi.1, hj]; exact hv, k G H2 v [] A (stt_grow st s12).1 (stt_grow st s12).2 (.s qv) st.nd⟩
    | _ => cases hf
end
section
variable {ι : Type} {Xf : ι → Cx} {P : Program} {w : World} {K : PySem.W.Frag} {mg : Str → Option Value} {base : Heap} {n : Nat} [F : Fam Xf P w K mg base n]
variable {M : Mk} {m m1 m2 mn ml : List Ty} {pos p p2 spos apos cpos : Pos} {a b c v o i : Expr} {f : Ef} {g gi gv : Gq} {pt : Pf} {t ty : Ty} {ts : List Ty}
include F
theorem pd_itm (hp : PPl Xf K m a (.l .s) g pt) (hi : PQ Xf K m b gi) (hs : PlainIx b := by exact fun _ _ => rfl) : PD Xf K m (.Subscript a b pos) .s (eItm g gi) m := by
  obtain ⟨ta, pa, da⟩ := hp.ex
  obtain ⟨tb, pb, db⟩ := hi.ex
  exact ⟨_, fun i => by have := pe_ix (ix_list (X := Xf i)) (pa i) (pb i) hs (pos := pos); rw [F.kk i] at this; exact this, DE.itm da db⟩
theorem pd_app (j : Nat) {x : Str} {xp : Pos} (hv0 : PD Xf K (m.set j .u) v t f m1) (hm : m[j]? = some (.l t) := by rfl) (hm1 : m1[j]? = some .u := by rfl) (hN : ∀ i, (Xf i).N[j]? = some x := by intro _; rfl)
    (hv : ∀ i, Vis (Xf i).env.scope x := by first | (intro _; exact Or.inl rfl) | (intro _; exact Or.inr (Or.inl rfl)) | (intro _; exact Or.inr (Or.inr rfl))) (hd : (x == ("__debug__" : Str)) = false := by decide) (hcd : (x == ("__classdict__" : Str)) = false := by decide)
    (hbase : ∀ i, attributeBase (.Name x xp) "append" (Xf i).env (eval (.Name x xp) (Xf i).env) = eval (.Name x xp) (Xf i).env := by intro _; rfl)
    (hfew : ∀ i, ((backTo cpos (starEach [v] (Xf i).env)).all (fun x => !x.1) && (backToKw cpos (keywordEach [] (Xf i).env)).all (fun x => x.1.isSome)
      && decide ([v].length + ([] : List Keyword).length + (if ([] : List Keyword).isEmpty then 0 else 1) < 30)) = true := by intro _; rfl)
    (hline : (apos.endLine == cpos.line) = true := by rfl) (hs : ∀ i, starEach [v] (Xf i).env = (false, eval v (Xf i).env) :: starEach [] (Xf i).env := by intro _; rfl) (hplain : ∀ i, (backTo cpos (starEach [] (Xf i).env)).any (·.1) = false := by intro _; rfl) :
    PD Xf K m (.Call (.Attribute (.Name x xp) "append" apos) [v] [] cpos) .s (eApp j f) (m1.set j (.l t)) := by
  obtain ⟨tv, pv, dv⟩ := hv0.ex
  exact ⟨_, fun i => by have := pe_bm PySem.F.plainAttrs_list PySem.F.slot_list_append PySem.F.type_list_append (mt_append (X := Xf i)) (pe_var (hN i) (hv i) hd hcd) (pa_cons (pv i) pa_nil (hs i)) (hbase i) (hfew i) hline (hs i) (hplain i); rw [F.kk i] at this; exact this, DE.app hm dv hm1⟩
theorem pd_popAt (hp : PPl Xf K m o (.l t) g pt) (hi : PQ Xf K m v gi) (hbase : ∀ i, attributeBase o "pop" (Xf i).env (eval o (Xf i).env) = eval o (Xf i).env := by intro _; rfl)
    (hfew : ∀ i, ((backTo cpos (starEach [v] (Xf i).env)).all (fun x => !x.1) && (backToKw cpos (keywordEach [] (Xf i).env)).all (fun x => x.1.isSome)
      && decide ([v].length + ([] : List Keyword).length + (if ([] : List Keyword).isEmpty then 0 else 1) < 30)) = true := by intro _; rfl)
    (hline : (apos.endLine == cpos.line) = true := by rfl) (hs : ∀ i, starEach [v] (Xf i).env = (false, eval v (Xf i).env) :: starEach [] (Xf i).env := by intro _; rfl) (hplain : ∀ i, (backTo cpos (starEach [] (Xf i).env)).any (·.1) = false := by intro _; rfl) :
    PD Xf K m (.Call (.Attribute o "pop" apos) [v] [] cpos) t (ePopAt g pt gi) m := by
  obtain ⟨ta, pa, da⟩ := hp.ex
  obtain ⟨tv, pv, dv⟩ := hi.ex
  exact ⟨_, fun i => by have := pe_bm PySem.F.plainAttrs_list PySem.F.slot_list_pop PySem.F.type_list_pop (mt_popAt (X := Xf i)) (pa i) (pa_cons (pv i) pa_nil (hs i)) (hbase i) (hfew i) hline (hs i) (hplain i); rw [F.kk i] at this; exact this, DE.popAt da dv⟩
theorem ds_setL (hv : PD Xf K m v t f m1) (hp : PPl Xf K m1 o (.l t) g pt) (hi : PQ Xf K m1 i gi)
    (ha : ∀ z v, assign (.Subscript o i pos) (Xf z).env v = (do
      let ov ← holding [v] (eval o (Xf z).env)
      let iv ← holding [v, ov] (eval i (Xf z).env)
      standAt pos
      holding [v, ov, iv] (setItem ov iv v)
      release [v, ov, iv] []) := by intro _ _; rfl)
    (hs : ∀ z, swapsWithSole [.Subscript o i pos] v spos.line (Xf z).env = pure false := by intro _; rfl) (hw : ∀ z, swappedStores [.Subscript o i pos] v (Xf z).env = pure none := by intro _; rfl)
    (h1 : ∀ z, (assignEach [.Subscript o i pos] (Xf z).env).map (·.2) = [assign (.Subscript o i pos) (Xf z).env] := by intro _; rfl) : PSd Xf K M m (.Assign [.Subscript o i pos] v spos) (sSet g pt gi f) m1 := by
  obtain ⟨tv, pv, dv⟩ := hv.ex
  obtain ⟨ta, pa, da⟩ := hp.ex
  obtain ⟨tb, pb, db⟩ := hi.ex
  exact ⟨_, fun z => ps_asg (pv z) (pg_sub (pa z) (pb z) set_list (ha z)) (hs z) (hw z) (h1 z), DS.setL dv da db Pin.refl⟩
theorem ds_setR (c : Nat) {ci : Int} {cj} (hv : PD Xf K m v t f m1) (hp : PPl Xf K m1 o (.r ts) g pt) (hc : ci = (c : Nat) := by rfl) (ht : ts[c]? = some t := by rfl)
    (ha : ∀ z v, assign (.Subscript o (.Constant (.int ci) cj p) pos) (Xf z).env v = (do
      let ov ← holding [v] (eval o (Xf z).env)
      let iv ← holding [v, ov] (eval (.Constant (.int ci) cj p) (Xf z).env)
      standAt pos
      holding [v, ov, iv] (setItem ov iv v)
      release [v, ov, iv] []) := by intro _ _; rfl)
    (hs : ∀ z, swapsWithSole [.Subscript o (.Constant (.int ci) cj p) pos] v spos.line (Xf z).env = pure false := by intro _; rfl) (hw : ∀ z, swappedStores [.Subscript o (.Constant (.int ci) cj p) pos] v (Xf z).env = pure none := by intro _; rfl)
    (h1 : ∀ z, (assignEach [.Subscript o (.Constant (.int ci) cj p) pos] (Xf z).env).map (·.2) = [assign (.Subscript o (.Constant (.int ci) cj p) pos) (Xf z).env] := by intro _; rfl) : PSd Xf K M m (.Assign [.Subscript o (.Constant (.int ci) cj p) pos] v spos) (sSet g pt (qC (.int ci)) f) m1 := by
  obtain ⟨tv, pv, dv⟩ := hv.ex
  obtain ⟨ta, pa, da⟩ := hp.ex
  obtain ⟨tb, pb, db⟩ := (pq_int (Xf := Xf) (K := K) (m := m1) (i := ci) (j := cj) (pos := p)).ex
  exact ⟨_, fun z => ps_asg (pv z) (pg_sub (pa z) (pb z) set_list (ha z)) (hs z) (hw z) (h1 z), DS.setR dv da db (fun e => by subst hc; rfl) ht Pin.refl⟩
end
end DL
namespace DL
open PySem L2 PySem.Spec
section
variable {ι : Type} {Xf : ι → Cx} {P : Program} {w : World} {K : PySem.W.Frag} {mg : Str → Option Value} {base : Heap} {n : Nat} [F : Fam Xf P w K mg base n]
variable {m m1 m2 m3 : List Ty} {pos p p2 : Pos} {a b c tg : Expr} {f g h : Ef}
theorem own_q {K : PySem.W.Frag} {G H : Hp} {d : PyData} {v : Option V} {A : List Addr} (o : Own K G H .q d v A) : A = [] ∧ ∃ (a : Addr) (ns : List Int), v = some (.ref a) ∧ d = .list (ns.map .int) ∧ SqL K G a (ns.map V.int) ∧ ns.length ≤ sizeLine := by
  cases o with
  | q h hz => exact ⟨rfl, _, _, rfl, rfl, h, hz⟩
theorem dqA_nums {K : PySem.W.Frag} {G : Hp} : ∀ ns : List Int, DqA K G (ns.map V.int) (ns.map PyData.int)
  | [] => DqA.nil
  | i :: ns => DqA.cons (.int i) (dqA_nums ns)
theorem walkD_q {K : PySem.W.Frag} {G : Hp} {a : Addr} {ns : List Int} (h : SqL K G a (ns.map V.int)) : WalkS K G (Itl K a) (ns.map PyData.int) := by
  refine ⟨fun i H hi s => ?_, fun H s => ⟨_, same_seqL s h, by simp⟩, fun {i H x H' m G' σ e A} hi s st y => ?_⟩
  · rw [List.length_map] at hi
    exact ⟨_, .int ns[i], same_seqL s h, by rw [List.getElem?_map, List.getElem?_eq_getElem hi]; rfl⟩
  · obtain ⟨rfl, y⟩ := y
    refine ⟨G', Step.refl, st, Same.refl _, fun d hd => ?_⟩
    exact ((dqA_nums (K := K) (G := G) ns).2 i x d (y _ (same_seqL (s.trans st.sub) h)) hd).mono s
include F in
theorem pi_q (j : Nat) {x : Str} (hm : m[j]? = some .q := by rfl) (hN : ∀ i, (Xf i).N[j]? = some x := by intro _; rfl)
    (hv : ∀ i, Vis (Xf i).env.scope x := by first | (intro _; exact Or.inl rfl) | (intro _; exact Or.inr (Or.inl rfl)) | (intro _; exact Or.inr (Or.inr rfl))) (hd : (x == ("__debug__" : Str)) = false := by decide)
    (hcd : (x == ("__classdict__" : Str)) = false := by decide) : PIt Xf K false m tg (.Name x pos) (iSeq (eVar j)) m := by
  refine ⟨_, fun i => (by have := pi_list (tg := tg) (pe_var (X := Xf i) (pos := pos) (hN i) (hv i) hd hcd); rw [F.kk i] at this; exact this), fun {G H σ e A ds e' R} st hf k => ?_⟩
  obtain ⟨d', v, Aj, A0, h1, h2, h3, _, _⟩ := ownA_take st.own hm
  obtain ⟨_, a, ns, rfl, rfl, hq, hz⟩ := own_q h3
  have hf : (seqD (e.getD j .none)).bind (fun ds => some (ds, e)) = some (ds, e') := hf
  rw [List.getD_eq_getElem?_getD, h1] at hf
  cases hf
  exact ⟨.ref a, h2, a, rfl, ⟨_, same_seqL st.sub hq⟩, k G H A _ Step.refl st (walkD_q hq).d (by rw [List.length_map]; exact hz)⟩
def eLenQ (j : Nat) : Ef := fun e => match e.getD j .none with
  | .list ds => some (.int ds.length, e)
  | _ => none
def eSlQ (j : Nat) (lo hi : Option Int) : Ef := fun e => (gSlL (e.getD j .none) lo hi).map fun d => (d, e)
end
def stb : Ty → Bool
  | .u => true
  | .s => true
  | .q => true
  | .f _ _ => true
  | .x _ _ _ => true
  | _ => false
inductive FinOk (po : List Nat) : Nat → List Ty → List Ty → Prop
  | nil (j : Nat) (m : List Ty) : FinOk po j [] m
  | stb {j : Nat} {t t' : Ty} {ts m : List Ty} : stb t = true → FinOk po (j + 1) ts m → FinOk po j (t :: ts) (t' :: m)
  | own {j : Nat} {t : Ty} {ts m : List Ty} : j ∈ po → FinOk po (j + 1) ts m → FinOk po j (t :: ts) (t :: m)
def fins : List Ty → List PyData → List PyData → List PyData
  | t :: ts, d :: ds, e :: es => (if stb t = true then d else e) :: fins ts ds es
  | _, _, _ => []
def runF (f : Sf) (ptys : List Ty) (r : Nat) : DFn := fun ds => (f (ds ++ List.replicate r .none)).bind fun p => match p.1 with
  | .rt d => some (d, fins ptys ds p.2)
  | .nx => some (.none, fins ptys ds p.2)
  | _ => none
section
variable {K : PySem.W.Frag} {G H G1 H1 : Hp}
theorem own_stb {t : Ty} {d : PyData} {v : Option V} {A : List Addr} (o : Own K G H t d v A) (h : stb t = true) : A = [] := by
  cases o with
  | u => rfl
  | s => rfl
  | q => rfl
  | d => cases h
  | t => cases h
  | o => cases h
  | f => rfl
  | x => rfl
  | g => cases h
  | e => cases h
  | k => cases h
  | a => cases h
  | l => cases h
  | r => cases h
theorem fin_own {po : List Nat} {σ0 σ : St} : ∀ {j : Nat} {ts m : List Ty} {ds e : List PyData} {vs : List (Option V)} {A0 A : List Addr} {τ : List (Option V)}, FinOk po j ts m → OwnA K G H ts ds vs A0 → Same G G1 → OwnA K G1 H1 m e τ A → (∀ i, τ[i]? = σ[j + i]?) → (∀ i v, vs[i]? = some v → σ0[j + i]? = some v) → Pin po σ0 σ → A.Nodup →
    ∃ A3, OwnA K G1 H1 ts (fins ts ds e) vs A3 ∧ A3.Nodup ∧ ∀ a ∈ A3, a ∈ A := by
  intro j ts
  induction ts generalizing j with
  | nil =>
    intro m ds e vs A0 A τ fo o0 sg o h1 h2 hp nd
    cases o0
    exact ⟨[], .nil, List.nodup_nil, fun a h => by cases h⟩
  | cons t ts ih =>
    intro m ds e vs A0 A τ fo o0 sg o h1 h2 hp nd
    cases o0 with
    | @cons _ _ d ds v vs B0 B1 p1 p2 =>
      have h2' : ∀ i x, vs[i]? = some x → σ0[j + 1 + i]? = some x := fun i x hx => by
        have := h2 (i + 1) x (by simpa using hx)
        rw [show j + 1 + i = j + (i + 1) by omega]; exact this
      cases fo with
      | stb hs fo =>
        cases o with
        | @cons _ _ d' ds' v' vs' C0 C1 q1 q2 =>
          have h1' : ∀ i, vs'[i]? = σ[j + 1 + i]? := fun i => by
            have := h1 (i + 1)
            rw [show j + 1 + i = j + (i + 1) by omega, ← this]; simp
          obtain ⟨A3, o3, n3, s3⟩ := ih fo p2 sg q2 h1' h2' hp (List.nodup_append.mp nd).2.1
          obtain rfl := own_stb p1 hs
          refine ⟨A3, ?_, n3, fun a ha => List.mem_append_right _ (s3 a ha)⟩
          unfold fins
          rw [if_pos hs]
          exact OwnA.cons (A := []) (own_fr p1 sg (fun a h => by cases h) fun a h => by cases h) o3
      | own hj fo =>
        cases o with
        | @cons _ _ d' ds' v' vs' C0 C1 q1 q2 =>
          have h1' : ∀ i, vs'[i]? = σ[j + 1 + i]? := fun i => by
            have := h1 (i + 1)
            rw [show j + 1 + i = j + (i + 1) by omega, ← this]; simp
          have n := List.nodup_append.mp nd
          obtain ⟨A3, o3, n3, s3⟩ := ih fo p2 sg q2 h1' h2' hp n.2.1
          have ev : v' = v := by
            have a := h1 0
            have b := h2 0 v rfl
            have c := hp j hj
            simp only [Nat.add_zero] at a b
            rw [← a, b] at c
            simpa using c
          subst ev
          by_cases hs : stb t = true
          · obtain rfl := own_stb p1 hs
            refine ⟨A3, ?_, n3, fun a ha => List.mem_append_right _ (s3 a ha)⟩
            unfold fins
            rw [if_pos hs]
            exact OwnA.cons (A := []) (own_fr p1 sg (fun a h => by cases h) fun a h => by cases h) o3
          · refine ⟨C0 ++ A3, ?_, List.nodup_append.mpr ⟨n.1, n3, fun a ha b hb z => n.2.2 a ha b (s3 b hb) z⟩, fun a ha => ?_⟩
            · unfold fins
              rw [if_neg hs]
              exact OwnA.cons q1 o3
            · rcases List.mem_append.mp ha with z | z
              · exact List.mem_append_left _ z
              · exact List.mem_append_right _ (s3 a z)
theorem ownA_us {ts : List Ty} {ds : List PyData} {vs : List (Option V)} {A : List Addr} (r : Nat) (h : OwnA K G H ts ds vs A) : OwnA K G H (ts ++ List.replicate r .u) (ds ++ List.replicate r .none) (vs ++ List.replicate r none) A := by
  induction ts generalizing ds vs A with
  | nil =>
    cases h
    simp only [List.nil_append]
    induction r with
    | zero => exact .nil
    | succ r ih => rw [List.replicate_succ, List.replicate_succ, List.replicate_succ]; exact OwnA.cons (A := []) (.u _ _) ih
  | cons t ts ih =>
    cases h with
    | cons h1 h2 => exact .cons h1 (ih h2)
end
def NoNx (f : Sf) : Prop := ∀ e e', f e ≠ some (.nx, e')
theorem nnx_ret {f : Ef} : NoNx (sRet f) := fun e e' h => by
  obtain ⟨p, _, h⟩ := Option.map_eq_some_iff.mp h
  cases h
theorem nnx_seq {f g : Sf} (h : NoNx g) : NoNx (sSeq f g) := fun e e' z => by
  obtain ⟨⟨o, e1⟩, _, z⟩ := oBs z
  cases o with
  | nx => exact h _ _ z
  | bk => cases z
  | ct => cases z
  | rt d => cases z
abbrev oneX (X : Cx) : Unit → Cx := fun _ => X
theorem fam_one {P : Program} {w : World} {K : PySem.W.Frag} {mg : Str → Option Value} {base : Heap} {N ps : List Str} {qual : Str} {scope : Scope} {f : Addr} {cdv : Value} {A : Around} {outer : List Env} {s : Shared} {H : Hp} {E : XK} {n : Nat} (S : FnScope N ps scope)
    (hr : Room n (A.deeper (PyProof.Rows.envOfC qual scope s.heap.objs.size f cdv))) : Fam (oneX (cxOf CX0 P w K mg base N qual scope f cdv A outer s H E).nox) P w K mg base n :=
  ⟨fun _ => rfl, fun _ => rfl, fun _ => rfl, fun _ => rfl, fun _ => rfl, fun _ => hr.u, fun _ => S.nd⟩
theorem fnG_dl {P : Program} {w : World} {K : PySem.W.Frag} {mg : Str → Option Value} {base : Heap} {x qual : Str} {st : Stmt} {f : Addr} {fd : FuncData} {N ps : List Str} {k : Nat} {ptys : List Ty} {rty : Ty} {sf : Sf} {mr : List Ty} {po : List Nat} {r : Nat}
    (F : L2.Fun K x qual st f fd) (S : FnScope N ps (defScope st)) (hl : ptys.length = ps.length) (hr : N.length = ps.length + r) (fo : FinOk po 0 ptys mr) (hty : rty = .s ∨ ∀ e e', sf e ≠ some (.nx, e'))
    (hbody : ∀ (cdv : Value) (A : Around) (outer : List Env) (s : Shared) (H : Hp) (E : XK), Fam (oneX (cxOf CX0 P w K mg base N qual (defScope st) f cdv A outer s H E).nox) P w K mg base k → FamG (oneX (cxOf CX0 P w K mg base N qual (defScope st) f cdv A outer s H E).nox) → FamN (oneX (cxOf CX0 P w K mg base N qual (defScope st) f cdv A outer s H E).nox) →
      PSsd (oneX (cxOf CX0 P w K mg base N qual (defScope st) f cdv A outer s H E).nox) K ⟨[], [], mr, po, rty⟩ (ptys ++ List.replicate r .u) (defBody st) sf mr) : FnG P w K mg base (k + 1) f fd ps (spD K ptys rty (runF sf ptys r)) := by
  refine fnG_of F S (fun vs H Q E h => ?_) fun cdv A outer s H vs Q E room gd h => ?_
  · obtain ⟨ds, d, fs, G, A, _, o, _⟩ := h
    have := ownA_len o
    rw [List.length_map] at this
    omega
  · obtain ⟨ds, d, fs, G, A0, hF, o0, nd, sub, kont⟩ := h
    have ln := ownA_len o0
    rw [List.length_map] at ln
    obtain ⟨t, pt, dt⟩ := (hbody cdv A outer s H E (fam_one S room) ⟨fun _ => gd, fun _ => rfl, fun _ => room.hd⟩ ⟨fun _ => PassesOwn.never⟩).ex
    refine ⟨t, pt (), ?_⟩
    obtain ⟨⟨o, e'⟩, h1, h2⟩ := oBs hF
    have hst : L2.start N vs = vs.map some ++ List.replicate r none := by
      unfold L2.start
      rw [show N.length - vs.length = r by omega]
    have st0 : Stt K (ptys ++ List.replicate r .u) G H (L2.start N vs) (ds ++ List.replicate r .none) A0 := ⟨by rw [hst]; exact ownA_us r o0, nd, sub⟩
    refine dt st0 h1 ?_
    have fin : ∀ {G' H' : Hp} {σ' : St} {A' : List Addr}, Same G G' → Stt K mr G' H' σ' e' A' → Pin po (L2.start N vs) σ' → ∃ A3, OwnA K G' H' ptys (fins ptys ds e') (vs.map some) A3 ∧ A3.Nodup ∧ ∀ a ∈ A3, a ∈ A' := fun {G' H' σ' A'} sg st' pn =>
      fin_own (j := 0) fo o0 sg st'.own (fun i => by rw [Nat.zero_add]) (fun i v hv => by
        rw [Nat.zero_add, hst, List.getElem?_append_left (List.getElem?_eq_some_iff.mp hv).1]; exact hv) pn st'.nd
    cases o with
    | nx =>
      cases h2
      rcases hty with hty | hty
      · subst hty
        exact fun G' H' σ' A' s' st' pn => by
          obtain ⟨A3, o3, n3, s3⟩ := fin s'.sg st' pn
          exact kont G' H' .non [] A3 (s'.less s3) o3 (.s .non) n3 st'.sub
      · exact absurd h1 (hty _ _)
    | bk => cases h2
    | ct => cases h2
    | rt d1 =>
      cases h2
      intro G' H' σ' v Av A' s' st' ov ndv pn
      obtain ⟨A3, o3, n3, s3⟩ := fin s'.sg st' pn
      have n := List.nodup_append.mp ndv
      refine kont G' H' v Av A3 (s'.less fun a ha => ?_) o3 ov (List.nodup_append.mpr ⟨n.1, n3, fun a ha b hb z => n.2.2 a ha b (s3 b hb) z⟩) st'.sub
      rcases List.mem_append.mp ha with z | z
      · exact List.mem_append_left _ z
      · exact List.mem_append_right _ (s3 a z)
end DL
namespace DL
open PySem L2 PySem.Spec PyProof.Rows
def hScr (K : PySem.W.Frag) (a : Addr) (u : HO) : Hp := fun b => if b = a ∧ K.lookup a = none then some u else none
theorem hScr_some {K : PySem.W.Frag} {a b : Addr} {u z : HO} (h : hScr K a u b = some z) : b = a ∧ K.lookup a = none ∧ z = u := by
  unfold hScr at h
  split at h
  · rename_i c; exact ⟨c.1, c.2, (Option.some.inj h).symm⟩
  · cases h
theorem hScr_none {K : PySem.W.Frag} {a b : Addr} {u : HO} (h : b ≠ a ∨ K.lookup a ≠ none) : hScr K a u b = none := by
  unfold hScr
  rw [if_neg]
  rintro ⟨c1, c2⟩
  exact h.elim (fun z => z c1) fun z => z c2
section
variable {P : Program} {w : World} {K : PySem.W.Frag} {mg mb : Str → Option Value} {k : Nat} {fa a : Addr} {fd : FuncData} {x : Str} {s₁ : Shared} {vs : List Value} {ns : List Int} {Fn : DFn}
end
end DL
namespace DL
open PySem L2 PySem.Spec PyProof.Rows
class IsaOk (T : String) (p : outParam (PyData → Bool)) : Prop where
  non : kitB "NoneType" T = some (p .none)
  bl : ∀ b, kitB "bool" T = some (p (.bool b))
  int : ∀ i, kitB "int" T = some (p (.int i))
  str : ∀ x, kitB "str" T = some (p (.str x))
  lst : ∀ xs, kitB "list" T = some (p (.list xs))
  tup : ∀ xs, kitB "tuple" T = some (p (.tuple xs))
  dic : ∀ kvs : List (Str × Int), kitB "dict" T = some (p (.dict (kvs.map fun q => (.str q.1, .int q.2))))
  dv : ∀ (k : Str) (d : PyData), kitB "dict" T = some (p (.dict [(.str k, d)]))
  ob : ∀ o cn ns ds, p (obD o cn ns ds) = false
  mem : T ∈ obTys
instance : IsaOk "int" PyData.isInt := ⟨(by decide +kernel : kitB "NoneType" "int" = some false), fun _ => (by decide +kernel : kitB "bool" "int" = some true), fun _ => (by decide +kernel : kitB "int" "int" = some true), fun _ => (by decide +kernel : kitB "str" "int" = some false), fun _ => (by decide +kernel : kitB "list" "int" = some false), fun _ => (by decide +kernel : kitB "tuple" "int" = some false), fun _ => (by decide +kernel : kitB "dict" "int" = some false), fun _ _ => (by decide +kernel : kitB "dict" "int" = some false), fun _ _ _ _ => rfl, by decide⟩
instance : IsaOk "bool" PyData.isBool := ⟨(by decide +kernel : kitB "NoneType" "bool" = some false), fun _ => (by decide +kernel : kitB "bool" "bool" = some true), fun _ => (by decide +kernel : kitB "int" "bool" = some false), fun _ => (by decide +kernel : kitB "str" "bool" = some false), fun _ => (by decide +kernel : kitB "list" "bool" = some false), fun _ => (by decide +kernel : kitB "tuple" "bool" = some false), fun _ => (by decide +kernel : kitB "dict" "bool" = some false), fun _ _ => (by decide +kernel : kitB "dict" "bool" = some false), fun _ _ _ _ => rfl, by decide⟩
instance : IsaOk "str" PyData.isStr := ⟨(by decide +kernel : kitB "NoneType" "str" = some false), fun _ => (by decide +kernel : kitB "bool" "str" = some false), fun _ => (by decide +kernel : kitB "int" "str" = some false), fun _ => (by decide +kernel : kitB "str" "str" = some true), fun _ => (by decide +kernel : kitB "list" "str" = some false), fun _ => (by decide +kernel : kitB "tuple" "str" = some false), fun _ => (by decide +kernel : kitB "dict" "str" = some false), fun _ _ => (by decide +kernel : kitB "dict" "str" = some false), fun _ _ _ _ => rfl, by decide⟩
instance : IsaOk "list" PyData.isList := ⟨(by decide +kernel : kitB "NoneType" "list" = some false), fun _ => (by decide +kernel : kitB "bool" "list" = some false), fun _ => (by decide +kernel : kitB "int" "list" = some false), fun _ => (by decide +kernel : kitB "str" "list" = some false), fun _ => (by decide +kernel : kitB "list" "list" = some true), fun _ => (by decide +kernel : kitB "tuple" "list" = some false), fun _ => (by decide +kernel : kitB "dict" "list" = some false), fun _ _ => (by decide +kernel : kitB "dict" "list" = some false), fun _ _ _ _ => rfl, by decide⟩
instance : IsaOk "tuple" PyData.isTuple := ⟨(by decide +kernel : kitB "NoneType" "tuple" = some false), fun _ => (by decide +kernel : kitB "bool" "tuple" = some false), fun _ => (by decide +kernel : kitB "int" "tuple" = some false), fun _ => (by decide +kernel : kitB "str" "tuple" = some false), fun _ => (by decide +kernel : kitB "list" "tuple" = some false), fun _ => (by decide +kernel : kitB "tuple" "tuple" = some true), fun _ => (by decide +kernel : kitB "dict" "tuple" = some false), fun _ _ => (by decide +kernel : kitB "dict" "tuple" = some false), fun _ _ _ _ => rfl, by decide⟩
theorem isDct_kvs (kvs : List (Str × Int)) : isDct (.dict (kvs.map fun q => (.str q.1, .int q.2))) = true := by
  match kvs with
  | [] => rfl
  | [_] => rfl
  | _ :: _ :: _ => rfl
instance : IsaOk "dict" isDct := ⟨(by decide +kernel : kitB "NoneType" "dict" = some false), fun _ => (by decide +kernel : kitB "bool" "dict" = some false), fun _ => (by decide +kernel : kitB "int" "dict" = some false), fun _ => (by decide +kernel : kitB "str" "dict" = some false), fun _ => (by decide +kernel : kitB "list" "dict" = some false), fun _ => (by decide +kernel : kitB "tuple" "dict" = some false), fun kvs => by rw [isDct_kvs]; exact (by decide +kernel : kitB "dict" "dict" = some true), fun _ _ => (by decide +kernel : kitB "dict" "dict" = some true), fun _ _ _ _ => rfl, by decide⟩
instance : IsaOk "set" PyData.isSet := ⟨(by decide +kernel : kitB "NoneType" "set" = some false), fun _ => (by decide +kernel : kitB "bool" "set" = some false), fun _ => (by decide +kernel : kitB "int" "set" = some false), fun _ => (by decide +kernel : kitB "str" "set" = some false), fun _ => (by decide +kernel : kitB "list" "set" = some false), fun _ => (by decide +kernel : kitB "tuple" "set" = some false), fun _ => (by decide +kernel : kitB "dict" "set" = some false), fun _ _ => (by decide +kernel : kitB "dict" "set" = some false), fun _ _ _ _ => rfl, by decide⟩
theorem dq_ty1 {K : PySem.W.Frag} {H : Hp} {x : V} {d : PyData} {T : String} {p : PyData → Bool} (ok : IsaOk T p) (q : Dq K H x d) : ∃ t : Value, TyX K H x t ∧ PySem.W.kitOne K t (.type T) = some (p d) := by
  cases q with
  | non => exact ⟨_, .base .non, kit_ty ok.non⟩
  | bl b => exact ⟨_, .base (.bl b), kit_ty (ok.bl b)⟩
  | int i => exact ⟨_, .base (.int i), kit_ty (ok.int i)⟩
  | str x hx => exact ⟨_, .base (.str x), kit_ty (ok.str x)⟩
  | lst h _ _ _ =>
    rcases h with h | ⟨o, h⟩
    · exact ⟨_, .base (.lst h), kit_ty (ok.lst _)⟩
    · exact ⟨_, .base (.frz h), kit_ty (ok.lst _)⟩
  | tup h _ _ _ =>
    rcases h with ⟨o, _, _, h⟩ | ⟨o, its, n, h1, h2, _⟩
    · exact ⟨_, .fTuple h, kit_ty (ok.tup _)⟩
    · exact ⟨_, .kTuple h1 h2, kit_ty (ok.tup _)⟩
  | dic h _ _ =>
    rcases h with h | ⟨o, h⟩
    · exact ⟨_, .base (.dK h), kit_ty (ok.dic _)⟩
    · exact ⟨_, .fDict h, kit_ty (ok.dic _)⟩
  | dv h _ _ =>
    rcases h with h | ⟨o, h⟩
    · exact ⟨_, .base (.dK h), kit_ty (ok.dv _ _)⟩
    · exact ⟨_, .fDict h, kit_ty (ok.dv _ _)⟩
  | ob o cn c h _ _ _ => exact ⟨_, .base (.ins h c.cl c.ca c.cg c.ct c.cm), by rw [ok.ob]; exact c.ty T ok.mem⟩
def gIsa (p : PyData → Bool) (d : PyData) : Option PyData := some (.bool (p d))
def rIsaD (K : PySem.W.Frag) (T : String) (p : PyData → Bool) : List V → Hp → VK → Prop := fun vs H Q => ∃ x d, vs = [x, .ty T] ∧ Dq K H x d ∧ Q (.bl (p d)) H
theorem call_isaD {X : Cx} {T : String} {p : PyData → Bool} (h : IsaOk T p) : CallR X (.builtin "isinstance") (rIsaD X.K T p) := by
  intro pins s σ H vs us Q I r hq
  obtain ⟨x, d, rfl, q, k⟩ := hq
  obtain ⟨t, ty, e⟩ := dq_ty1 h q
  exact call_isi pins s σ H _ us Q I r ⟨x, .ty T, t, .type T, p d, rfl, .ty T, ty, e, k⟩
section
variable {ι : Type} {Xf : ι → Cx} {P : Program} {w : World} {K : PySem.W.Frag} {mg : Str → Option Value} {base : Heap} {n : Nat} [F : Fam Xf P w K mg base n]
variable {m m1 m2 m3 : List Ty} {pos p p2 : Pos} {a b c tg : Expr} {f g h : Ef} {fq : Gq}
include F in
theorem pd_isa (T : String) {pp : PyData → Bool} {x : Str} [ok : IsaOk T pp] (hm : mg "isinstance" = none) (hmT : mg x = none) (hv : bootBuiltins x = some (.type T)) (ha : PD Xf K m a .s f m1) (hg : ∀ i, Gl (Xf i) "isinstance" := by intro _; rfl) (hgT : ∀ i, Gl (Xf i) x := by intro _; rfl) (hn : x ≠ "__name__" := by decide) (hdb : (x == ("__debug__" : Str)) = false := by decide)
    (he : ∀ i, starEach [a, .Name x p2] (Xf i).env = (false, eval a (Xf i).env) :: starEach [.Name x p2] (Xf i).env := by intro _; rfl) (he2 : ∀ i, starEach [.Name x p2] (Xf i).env = (false, eval (.Name x p2) (Xf i).env) :: starEach [] (Xf i).env := by intro _; rfl) (hpl : ∀ i, (backTo pos (starEach [.Name x p2] (Xf i).env)).any (·.1) = false := by intro _; rfl) :
    PD Xf K m (.Call (.Name "isinstance" p) [a, .Name x p2] [] pos) .s (e1 (gIsa pp) f) m1 := by
  obtain ⟨ta, pa, da⟩ := ha.ex
  refine ⟨_, fun i => (by have := pe_callB (pos := pos) (p := p) (call_isaD (X := Xf i) ok) (hg i) (by rw [F.mg_ i]; exact hm) bt_isinstance (pa_cons (pa i) (pa_cons (pe_bltn (v := .ty T) (pos := p2) (hgT i) (by rw [F.mg_ i]; exact hmT) hv rfl hn hdb) pa_nil (he2 i)) (he i)) (by decide) (by decide) (he i) (hpl i); rw [F.kk i] at this; exact this), fun {G H σ e A d e' Q} st hf k => ?_⟩
  unfold e1 at hf
  obtain ⟨⟨d1, e1⟩, hf1, hf⟩ := oBs hf
  obtain ⟨d3, hf3, hf⟩ := oBs hf
  cases hf3
  cases hf
  refine da st hf1 fun G1 H1 v1 A1 B1 s1 st1 o1 nd1 => ?_
  cases o1 with
  | s q1 => exact ⟨v1, d1, rfl, q1.mono st1.sub, k G1 H1 _ [] B1 s1 st1 (.s (.bl _)) st1.nd⟩
include F in
theorem pd_gint {x : Str} {i : Int} {t : Tok} (hm : mg x = some (.int i t)) (hg : ∀ i, Gl (Xf i) x := by intro _; rfl) (hd : (x == ("__debug__" : Str)) = false := by decide) : PD Xf K m (.Name x pos) .s (eC (.int i)) m :=
  ⟨_, fun j => pe_glob (v := .int i) (hg j) (by rw [F.mg_ j]; exact hm) ⟨t, rfl⟩ hd, fun {G H σ e A d e' Q} st hf k => by cases hf; exact ans_s st (.int i) k⟩
end
end DL
namespace DL
open PySem PySem.Calls PyProof.Rows L2
section
variable {prog : Program} {w : World} {A : Around} {E : Value → Shared → Prop} {s : Shared}
end
end DL
namespace DL
open PySem L2 PySem.Spec
section
variable {ι : Type} {Xf : ι → Cx} {P : Program} {w : World} {K : PySem.W.Frag} {mg : Str → Option Value} {base : Heap} {n : Nat} [F : Fam Xf P w K mg base n]
end
end DL
namespace DL
open PySem L2 PySem.Spec
section
variable {K : PySem.W.Frag} {M : Mk} {G H G1 H1 : Hp} {m m1 m2 mn : List Ty} {σ σ1 : St} {e : En} {A A1 : List Addr} {D : Ends} {e' : En} {o : Out} {t u : TS} {f g : Sf} {ef : Ef} {bf : Bf} {lf : Lf}
theorem DS.parT {ta : TA} {i j : Nat} {t1 t2 : Ty} (ha : DA K m ta [t1, t2] lf m1) (hi : i < m1.length) (hj : j < m1.length) (pi : i ∉ M.po) (pj : j ∉ M.po) : DS K M m (tPar i j ta) (sPar i j lf) ((m1.set i t1).set j t2) := by
  intro G H σ e A o e' D st hf k
  obtain ⟨⟨ds, e1⟩, hf1, hf⟩ := oBs hf
  refine ha st hf1 fun G1 H1 vs Av A1 s1 st1 o1 nd1 => ?_
  match vs, ds, hf, o1 with
  | [v, w], [x, y], hf, o1 =>
    cases hf
    cases o1 with
    | @cons _ _ _ _ _ _ A2 A3 p1 p2 =>
      cases p2 with
      | @cons _ _ _ _ _ _ A4 A5 p3 p4 =>
        cases p4
        rw [List.append_nil] at nd1 s1
        have n1 := List.nodup_append.mp nd1
        have n2 := List.nodup_append.mp n1.1
        obtain ⟨B2, st2, hB2⟩ := stt_set st1 hi p1 (List.nodup_append.mpr ⟨n2.1, n1.2.1, fun a ha b hb z => n1.2.2 a (List.mem_append_left _ ha) b hb z⟩)
        obtain ⟨B3, st3, hB3⟩ := stt_set st2 (by rw [List.length_set]; exact hj) p3 (List.nodup_append.mpr ⟨n2.2.1, st2.nd, fun a ha b hb z => by
          rcases List.mem_append.mp (hB2 b hb) with q | q
          · exact n2.2.2 b q a ha z.symm
          · exact n1.2.2 a (List.mem_append_right _ ha) b q z⟩)
        refine ⟨v, w, rfl, k G1 H1 _ B3 (s1.less fun a h => ?_) st3 ((Pin.set pi).trans (Pin.set pj))⟩
        rcases List.mem_append.mp (hB3 a h) with q | q
        · exact List.mem_append_left _ (List.mem_append_right _ q)
        · rcases List.mem_append.mp (hB2 a q) with q | q
          · exact List.mem_append_left _ (List.mem_append_left _ q)
          · exact List.mem_append_right _ q
  | [_], _, _, o1 => cases o1 with | cons _ p => cases p
  | [], _, _, o1 => cases o1
  | _ :: _ :: _ :: _, _, _, o1 => cases o1 with | cons _ p => cases p with | cons _ p => cases p
def eItmG (j : Nat) (f : Ef) : Ef := fun e => (f e).bind fun p => (itemD (p.2.getD j .none) p.1).map fun x => (x, p.2)
theorem DE.itmG {ti : TE} {j : Nat} {t0 : Ty} (h0 : m[j]? = some t0) (hl0 : lstTy t0 = true) (hi : DE K m ti .s ef m1) (hm : m1[j]? = some (.l .s)) : DE K m (tOp (rIxL K) (tVar j) ti) .s (eItmG j ef) m1 := by
  intro G H σ e A d e' Q st hf k
  obtain ⟨⟨di, e1⟩, hf1, hf⟩ := oBs hf
  obtain ⟨x, hx, hf⟩ := Option.map_eq_some_iff.mp hf
  cases hf
  obtain ⟨d0, v0, B0, C0, g1, g2, g3, _, _⟩ := ownA_take st.own h0
  have hv0 : ∃ w, v0 = some w := by cases g3 with | u => cases hl0 | s => cases hl0 | q => cases hl0 | e => cases hl0 | k => cases hl0 | a => cases hl0 | d => exact ⟨_, rfl⟩ | t => exact ⟨_, rfl⟩ | o => exact ⟨_, rfl⟩ | f => cases hl0 | x => cases hl0 | g => cases hl0 | l => exact ⟨_, rfl⟩ | r => exact ⟨_, rfl⟩
  obtain ⟨w, rfl⟩ := hv0
  refine ⟨w, g2, hi st hf1 fun G1 H1 y A1 B1 s1 st1 o1 nd1 => ?_⟩
  obtain ⟨dj, vj, Aj, A0, h1, h2, h3, h4, hp⟩ := ownA_take st1.own hm
  rw [g2] at h2
  obtain rfl := Option.some.inj h2
  cases o1 with
  | s q1 =>
    cases h3 with
    | @l _ a vs ds Ai ga ha hz oi =>
      have ed : e1.getD j .none = .list ds := by rw [List.getD_eq_getElem?_getD, h1]; rfl
      rw [ed] at hx
      cases di with
      | int i =>
        obtain rfl := dq_int q1
        obtain ⟨jj, hj, hx⟩ := oBs (show (ixN ds.length i).bind _ = _ from hx)
        obtain ⟨rfl, qi⟩ := of_ownA oi
        obtain ⟨v, hv, qv⟩ := qi.get hx
        exact ⟨a, vs, i, v, rfl, rfl, .inl (.inl ha), by unfold atI; rw [qi.1, hj]; exact hv, k G1 H1 v [] B1 s1 st1 (.s qv) st1.nd⟩
      | _ => cases hx
end
section
variable {ι : Type} {Xf : ι → Cx} {P : Program} {w : World} {K : PySem.W.Frag} {mg : Str → Option Value} {base : Heap} {n : Nat} [F : Fam Xf P w K mg base n]
variable {M : Mk} {m m1 m2 mn ml : List Ty} {pos p p2 spos xp : Pos} {a b c v tg iter : Expr} {st : Stmt} {rest body orelse : List Stmt} {f g : Sf} {ef eg : Ef} {bf : Bf} {lf : Lf} {gf : Gf} {sl : List Nat} {ty t1 t2 : Ty}
include F in
theorem ds_parT [FG : FamG Xf] (i j : Nat) {L : List (Option Nat)} {x y : Str} {px py pt pt2 : Pos} {kt k2} (ha : PAL Xf K m [a, b] [t1, t2] L lf m1) (hi : i < m1.length := by first | decide | rfl | simp) (hj : j < m1.length := by first | decide | rfl | simp) (pi : i ∉ M.po := by first | decide | rfl | simp) (pj : j ∉ M.po := by first | decide | rfl | simp) (hij : i ≠ j := by decide)
    (ni : ∀ z, (Xf z).N[i]? = some x := by intro _; rfl) (nj : ∀ z, (Xf z).N[j]? = some y := by intro _; rfl) (hx : ∀ z, (Xf z).env.scope.names.lookup x = some .local := by intro _; rfl) (hy : ∀ z, (Xf z).env.scope.names.lookup y = some .local := by intro _; rfl)
    (hw : ∀ z, swappedStores [.Tuple [.Name x px, .Name y py] kt pt] (.Tuple [a, b] k2 pt2) (Xf z).env = pure (some [x, y]) := by intro _; rfl) (hs : ∀ z, swapsWithSole [.Tuple [.Name x px, .Name y py] kt pt] (.Tuple [a, b] k2 pt2) pos.line (Xf z).env = pure false := by intro _; rfl) :
    PSd Xf K M m (.Assign [.Tuple [.Name x px, .Name y py] kt pt] (.Tuple [a, b] k2 pt2) pos) (sPar i j lf) ((m1.set i t1).set j t2) := by
  obtain ⟨t, p, d⟩ := ha.ex
  exact ⟨_, fun z => ps_par (FG.calm z) (F.nd z) (ni z) (nj z) hij (hx z) (hy z) (p z) (hw z) (hs z), DS.parT (fun st hf k => d st hf fun G' H' vs Av A' s st' o nd _ => k G' H' vs Av A' s st' o nd) hi hj pi pj⟩
include F in
theorem pd_itmG (j : Nat) {t0 : Ty} {x : Str} (hi : PD Xf K m b .s ef m1) (h0 : m[j]? = some t0 := by rfl) (hl0 : lstTy t0 = true := by rfl) (hm : m1[j]? = some (.l .s) := by rfl) (hN : ∀ i, (Xf i).N[j]? = some x := by intro _; rfl)
    (hv : ∀ i, Vis (Xf i).env.scope x := by first | (intro _; exact Or.inl rfl) | (intro _; exact Or.inr (Or.inl rfl)) | (intro _; exact Or.inr (Or.inr rfl))) (hd : (x == ("__debug__" : Str)) = false := by decide) (hcd : (x == ("__classdict__" : Str)) = false := by decide) (hs : PlainIx b := by exact fun _ _ => rfl) :
    PD Xf K m (.Subscript (.Name x xp) b pos) .s (eItmG j ef) m1 := by
  obtain ⟨tb, pb, db⟩ := hi.ex
  exact ⟨_, fun i => by have := pe_ix (ix_list (X := Xf i)) (pe_var (pos := xp) (hN i) (hv i) hd hcd) (pb i) hs (pos := pos); rw [F.kk i] at this; exact this, DE.itmG h0 hl0 db hm⟩
structure PRd {ι : Type} (Xf : ι → Cx) (K : PySem.W.Frag) (m : List Ty) (e : Expr) (f : Lf) (m' : List Ty) : Prop where
  ex : ∃ te : St → Hp → (Int → Int → Hp → Prop) → Prop, (∀ i, PRg (Xf i) e te) ∧ ∀ {G H : Hp} {σ : St} {e : En} {A : List Addr} {ds : List PyData} {e' : En} {Q : Int → Int → Hp → Prop}, Stt K m G H σ e A → f e = some (ds, e') →
    (∀ (G' H' : Hp) (A' : List Addr) (a b : Int), Step A G H A' G' H' → Stt K m' G' H' σ e' A' → RgOk a b → ds = rngD a (b - a).toNat → Q a b H') → te σ H Q
def eLsR (f : Lf) : Ef := fun e => (f e).map fun p => (.list p.1, p.2)
def eTpR (f : Lf) : Ef := fun e => (f e).map fun p => (.tuple p.1, p.2)
def sNever : Sf := fun _ => none
def sAug (j : Nat) (gg : PyData → PyData → Option PyData) (f : Ef) : Sf := fun e => (f e).bind fun p => (gg (p.2.getD j .none) p.1).map fun d => (.nx, p.2.set j d)
end
def rRepr (K : PySem.W.Frag) : List V → Hp → VK → Prop := fun vs H Q => ∃ x d, vs = [x] ∧ Dq K H x d ∧ gRepr d = some (.str d.shown) ∧ Q (.str d.shown) H
def Shw (P : Program) (w : World) (h : Heap) (u : Value) (d : PyData) : Prop :=
  d.showable = true → d.shown.length ≤ sizeLine → (∃ as, Reads h u d as) ∧ ∃ bs, ReadAtMost h d.depth bs ∧ ReprK P w bs h d.depth u d.shown
theorem shw_all {P : Program} {w : World} {h : Heap} : ∀ {us : List Value} {ds : List PyData}, us.length = ds.length → (∀ (i : Nat) u d, us[i]? = some u → ds[i]? = some d → Shw P w h u d) →
    PyData.showableAll ds = true → (∀ t ∈ PyData.shownAll ds, t.length ≤ sizeLine) → (∃ as, ReadsAll h us ds as) ∧ ∃ bs, ReadAtMost h (PyData.depthAll ds) bs ∧ ReprAllK P w bs h (PyData.depthAll ds) us (PyData.shownAll ds)
  | [], [], _, _, _, _ => ⟨⟨_, .nil⟩, [], (fun b hb => by cases hb), by rw [PyData.shownAll]; exact .nil⟩
  | u :: us, d :: ds, hl, hi, hs, hz => by
    unfold PyData.showableAll at hs
    rw [Bool.and_eq_true] at hs
    unfold PyData.shownAll at hz ⊢
    unfold PyData.depthAll
    obtain ⟨⟨a1, r1⟩, b1, m1, k1⟩ := hi 0 u d rfl rfl hs.1 (hz _ (List.mem_cons_self ..))
    obtain ⟨⟨a2, r2⟩, b2, m2, k2⟩ := shw_all (us := us) (ds := ds) (by simpa using hl) (fun i u d h1 h2 => hi (i + 1) u d (by simpa using h1) (by simpa using h2)) hs.2 fun t ht => hz t (List.mem_cons_of_mem _ ht)
    refine ⟨⟨_, .cons r1 r2⟩, b1 ++ b2, (m1.mono (Nat.le_max_left _ _)).append (m2.mono (Nat.le_max_right _ _)), ?_⟩
    exact .cons ((k1.more fun _ z => List.mem_append_left _ z).level_le (Nat.le_max_left ..)) (k2.more_le (fun _ z => List.mem_append_right _ z) (Nat.le_max_right ..))
  | [], _ :: _, hl, _, _, _ => by simp at hl
  | _ :: _, [], hl, _, _, _ => by simp at hl
theorem nodictK : ∀ kvs : List (Str × Int), PyData.hasDictAll ((kvs.map fun p => (PyData.str p.1, PyData.int p.2)).map (·.1)) = false ∧ PyData.hasDictAll ((kvs.map fun p => (PyData.str p.1, PyData.int p.2)).map (·.2)) = false
  | [] => ⟨rfl, rfl⟩
  | p :: kvs => by
    obtain ⟨h1, h2⟩ := nodictK kvs
    simp only [List.map_cons, PyData.hasDictAll, h1, h2]
    exact ⟨rfl, rfl⟩
theorem vals_at {xs : List V} {us : List Value} (r : Vals xs us) {i : Nat} {u : Value} (h : us[i]? = some u) : ∃ v, xs[i]? = some v ∧ RelV v u := by
  have hi : i < xs.length := by rw [r.length]; exact (List.getElem?_eq_some_iff.mp h).1
  obtain ⟨u', e, q⟩ := r.get (List.getElem?_eq_getElem hi)
  rw [h] at e
  cases e
  exact ⟨_, List.getElem?_eq_getElem hi, q⟩
section
variable {X : Cx} {pins : List (Addr × Obj)} {σ : St} {H : Hp} {s : Shared}
theorem Dq.shw (I : L2.Inv X pins σ H s) {v : V} {d : PyData} (h : Dq X.K H v d) : ∀ {u : Value}, RelV v u → Shw X.prog X.w s.heap u d := by
  induction h with
  | non => intro u r _ _; cases r; exact ⟨⟨_, .none⟩, [], (fun b hb => by cases hb), by rw [PyData.shown]; exact .of_is ReprIs.none _ _ _⟩
  | bl b => intro u r _ _; cases r; exact ⟨⟨_, .bool b⟩, [], (fun b hb => by cases hb), by rw [PyData.shown]; exact .of_is (ReprIs.bool b) _ _ _⟩
  | int i =>
    intro u r hs _
    obtain ⟨t, rfl⟩ := r
    exact ⟨⟨_, .int i t⟩, [], (fun b hb => by cases hb), by rw [PyData.shown]; exact .of_is (ReprIs.int t (by simpa [PyData.showable] using hs)) _ _ _⟩
  | str x _ =>
    intro u r _ hz
    obtain ⟨t, rfl⟩ := r
    exact ⟨⟨_, .str x t⟩, [], (fun b hb => by cases hb), by rw [PyData.shown]; exact .of_is (ReprIs.str x t (by simpa only [PyData.shown] using hz)) _ _ _⟩
  | @lst a xs ds h1 hl _ _ ih =>
    intro u r hs hz
    cases r
    unfold PyData.shown at hz
    obtain ⟨_, its, n, rv, ho⟩ := rdL I h1
    obtain ⟨⟨as, ra⟩, bs, m, k⟩ := shw_all (P := X.prog) (w := X.w) (h := s.heap) (us := its) (ds := ds) (by rw [← rv.length]; exact hl) (fun i u d hu hd => by
      obtain ⟨v, hv, q⟩ := vals_at rv hu
      exact ih i v d hv hd q) (by simpa [PyData.showable] using hs) fun t ht => Nat.le_trans (listText_mem_le ht) hz
    have rr : Reads s.heap (.ref a) (.list ds) _ := .list ho rfl rfl ra
    have nin : a ∉ bs := not_mem_of_deeper rr (by unfold PyData.depth; omega) m
    refine ⟨⟨_, rr⟩, a :: bs, ReadAtMost.cons rr (by unfold PyData.depth; omega) m, ?_⟩
    unfold PyData.depth PyData.shown
    cases its with
    | nil =>
      cases ra
      rw [PyData.shownAll, listText_nil]
      exact ReprK.listEmpty ho rfl rfl
    | cons y its => exact ReprK.list ho rfl rfl nin (by simpa using k.length_eq) fun i z e => k.item i z (by simpa using e)
  | @tup a xs ds h1 hl _ _ ih =>
    intro u r hs hz
    cases r
    unfold PyData.shown at hz
    obtain ⟨its, rv, ⟨o, ho, hc, n, hd⟩, _⟩ := I.tuple h1.sq
    obtain ⟨⟨as, ra⟩, bs, m, k⟩ := shw_all (P := X.prog) (w := X.w) (h := s.heap) (us := its) (ds := ds) (by rw [← rv.length]; exact hl) (fun i u d hu hd => by
      obtain ⟨v, hv, q⟩ := vals_at rv hu
      exact ih i v d hv hd q) (by simpa [PyData.showable] using hs) fun t ht => Nat.le_trans (tupleText_mem_le ht) hz
    have rr : Reads s.heap (.ref a) (.tuple ds) _ := .tuple ho hc hd ra
    have nin : a ∉ bs := not_mem_of_deeper rr (by unfold PyData.depth; omega) m
    refine ⟨⟨_, rr⟩, a :: bs, ReadAtMost.cons rr (by unfold PyData.depth; omega) m, ?_⟩
    unfold PyData.depth PyData.shown
    exact ReprK.tuple ho hc hd nin k
  | @dv a k v d h1 hf h2 _ =>
    intro u r hs hz
    cases r
    unfold PyData.shown at hz
    obtain ⟨o, es, ep, ho, hx, hd, ⟨e, t, e1, e2, e3⟩, hne⟩ := rdD1 I h1
    obtain ⟨av, rv⟩ := h2.reads I (ft_noOb 3 hf) e3
    have ra : ReadsAll s.heap (es.toList.map (·.key)) ([(PyData.str k, d)].map (·.1)) ([] ++ []) := by rw [e1, List.map_cons, e2]; exact .cons (.str _ _) .nil
    have rb : ReadsAll s.heap (es.toList.map (·.val)) ([(PyData.str k, d)].map (·.2)) (av ++ []) := by rw [e1]; exact .cons rv .nil
    have rr : Reads s.heap (.ref a) (.dict [(PyData.str k, d)]) _ := Reads.dict ho hx.1 hd ra rb
    obtain ⟨s1, s2⟩ := PyData.showableKv_split _ (by simpa [PyData.showable] using hs)
    obtain ⟨b1, m1, k1⟩ := ReprAllK.of_readsAll (prog := X.prog) (w := X.w) ra s1 (fun _ => by simp) fun t ht => by
      obtain ⟨p, hp, hl⟩ := PyData.shownKv_key_le _ t ht
      exact Nat.le_trans hl (Nat.le_trans (dictText_mem_le hp) hz)
    obtain ⟨b2, m2, k2⟩ := ReprAllK.of_readsAll (prog := X.prog) (w := X.w) rb s2 (fun _ => by rw [reads_ft 3 hf rv]; simp) fun t ht => by
      obtain ⟨p, hp, hl⟩ := PyData.shownKv_val_le _ t ht
      exact Nat.le_trans hl (Nat.le_trans (dictText_mem_le hp) hz)
    have m := (m1.mono (PyData.depthAll_keys_le _)).append (m2.mono (PyData.depthAll_vals_le _))
    have nin : a ∉ b1 ++ b2 := not_mem_of_deeper rr (by unfold PyData.depth; omega) m
    refine ⟨⟨_, rr⟩, a :: (b1 ++ b2), ReadAtMost.cons rr (by unfold PyData.depth; omega) m, ?_⟩
    unfold PyData.depth PyData.shown
    rw [PyData.shownKv_eq]
    exact ReprK.dict ho hx.1 hd hne nin (ReprEntriesK.of_two es.toList _ _ (k1.more_le (fun b hb => List.mem_append_left _ hb) (PyData.depthAll_keys_le _)) (k2.more_le (fun b hb => List.mem_append_right _ hb) (PyData.depthAll_vals_le _)))
  | ob o cn =>
    intro u r hs hz
    rw [ob_show] at hs; cases hs
  | @dic a kvs h1 _ _ =>
    intro u r hs hz
    cases r
    unfold PyData.shown at hz
    obtain ⟨o, es, ep, ho, hx, hd, hp, hne⟩ := rdD I h1
    obtain ⟨as, ra, bs, rb⟩ := readsKV_of (h := s.heap) hp
    have rr : Reads s.heap (.ref a) (.dict (kvs.map fun p => (PyData.str p.1, PyData.int p.2))) _ := Reads.dict (as := as) (bs := bs) ho hx.1 hd (by rw [List.map_map]; exact ra) (by rw [List.map_map]; exact rb)
    obtain ⟨s1, s2⟩ := PyData.showableKv_split _ (by simpa [PyData.showable] using hs)
    obtain ⟨nd1, nd2⟩ := nodictK kvs
    obtain ⟨b1, m1, k1⟩ := ReprAllK.of_readsAll (prog := X.prog) (w := X.w) (by rw [List.map_map]; exact ra : ReadsAll s.heap (es.toList.map (·.key)) ((kvs.map fun p => (PyData.str p.1, PyData.int p.2)).map (·.1)) as) s1 (fun z => by rw [nd1] at z; cases z) fun t ht => by
      obtain ⟨p, hp, hl⟩ := PyData.shownKv_key_le _ t ht
      exact Nat.le_trans hl (Nat.le_trans (dictText_mem_le hp) hz)
    obtain ⟨b2, m2, k2⟩ := ReprAllK.of_readsAll (prog := X.prog) (w := X.w) (by rw [List.map_map]; exact rb : ReadsAll s.heap (es.toList.map (·.val)) ((kvs.map fun p => (PyData.str p.1, PyData.int p.2)).map (·.2)) bs) s2 (fun z => by rw [nd2] at z; cases z) fun t ht => by
      obtain ⟨p, hp, hl⟩ := PyData.shownKv_val_le _ t ht
      exact Nat.le_trans hl (Nat.le_trans (dictText_mem_le hp) hz)
    have m := (m1.mono (PyData.depthAll_keys_le _)).append (m2.mono (PyData.depthAll_vals_le _))
    have nin : a ∉ b1 ++ b2 := not_mem_of_deeper rr (by unfold PyData.depth; omega) m
    refine ⟨⟨_, rr⟩, a :: (b1 ++ b2), ReadAtMost.cons rr (by unfold PyData.depth; omega) m, ?_⟩
    unfold PyData.depth PyData.shown
    rw [PyData.shownKv_eq]
    exact ReprK.dict ho hx.1 hd hne nin (ReprEntriesK.of_two es.toList _ _ (k1.more_le (fun b hb => List.mem_append_left _ hb) (PyData.depthAll_keys_le _)) (k2.more_le (fun b hb => List.mem_append_right _ hb) (PyData.depthAll_vals_le _)))
end
class FamD {ι : Type} (Xf : ι → Cx) : Prop where
  gd : ∀ i, (Xf i).A.guards = some []
instance {ι : Type} {Xf : ι → Cx} [F : FamG Xf] : FamD Xf := ⟨fun i => F.gd i⟩
theorem call_reprD {X : Cx} {n : Nat} (hr : RoomU n X.A) (hg : X.A.guards = some []) : CallR X (.builtin "repr") (rRepr X.K) := by
  intro pins s σ H vs us Q I r h
  obtain ⟨x, d, rfl, q, hd, k⟩ := h
  obtain ⟨u, rfl, rx⟩ := vals1 r
  obtain ⟨h1, h3, h4⟩ := (ite_some hd).1
  have un := hr.un
  have fin : ∀ (h' : Heap) (t tk : Nat), (∀ b o, s.heap.get? b = some o → h'.get? b = some o) → EP X pins σ Q (.str d.shown t) { s with heap := h', toks := tk } := fun h' t tk hk => ⟨.str d.shown, H, I.kept (t' := tk) hk, ⟨t, rfl⟩, k⟩
  have q0 := q
  cases q with
  | non => cases rx; exact PySem.P.repr_of_none (fin s.heap s.toks (s.toks + 1) fun _ _ e => e)
  | bl b => cases rx; exact PySem.P.repr_of_bool (fin s.heap s.toks (s.toks + 1) fun _ _ e => e)
  | int i =>
    obtain ⟨t, rfl⟩ := rx
    exact PySem.P.repr_of_int (by simpa [PyData.showable] using h1) (fin s.heap s.toks (s.toks + 1) fun _ _ e => e)
  | str z hz =>
    obtain ⟨t, rfl⟩ := rx
    exact PySem.P.repr_of_str (fin s.heap s.toks (s.toks + 1) fun _ _ e => e) h4
  | @lst a xs ds hs hl _ hq =>
    cases rx
    unfold PyData.shown at h4 fin
    unfold PyData.depth at h3
    obtain ⟨_, its, m, rv, ho⟩ := rdL I hs
    obtain ⟨⟨as, ra⟩, bs, mm, kk⟩ := shw_all (P := X.prog) (w := X.w) (h := s.heap) (us := its) (ds := ds) (by rw [← rv.length]; exact hl) (fun i u d hu hd => by
      obtain ⟨v, hv, q⟩ := vals_at rv hu
      exact (hq i v d hv hd).shw I q) (by simpa [PyData.showable] using h1) fun t ht => Nat.le_trans (listText_mem_le ht) h4
    have rr : Reads s.heap (.ref a) (.list ds) _ := .list ho rfl rfl ra
    have nin : a ∉ bs := not_mem_of_deeper rr (by unfold PyData.depth; omega) mm
    refine call_repr_slot (by omega) ⟨_, ho, rfl⟩ PySem.F.slot_list_repr.toG ?_
    cases its with
    | nil =>
      cases ra
      exact call_list_repr_empty ⟨_, ho, rfl⟩ ho rfl ⟨_, _, rfl, by
        have := fin s.heap s.toks (s.toks + 1) fun _ _ e => e
        rw [PyData.shownAll, listText_nil] at this
        exact this⟩
    | cons y its =>
      exact call_list_reprK ho rfl rfl nin (by simpa using kk.length_eq) (fun i z e => kk.item i z (by simpa using e)) hg (fun b _ => Clear.nil b) (by show X.A.units + 1 + _ < cLine; omega) (fun _ _ e => e) (fun h' t tk hk => ⟨_, _, rfl, fin h' t tk hk⟩) h4
  | @tup a xs ds hs hl _ hq =>
    cases rx
    unfold PyData.shown at h4 fin
    unfold PyData.depth at h3
    obtain ⟨its, rv, ⟨o, ho, hc, m, hdd⟩, _⟩ := I.tuple hs.sq
    obtain ⟨⟨as, ra⟩, bs, mm, kk⟩ := shw_all (P := X.prog) (w := X.w) (h := s.heap) (us := its) (ds := ds) (by rw [← rv.length]; exact hl) (fun i u d hu hd => by
      obtain ⟨v, hv, q⟩ := vals_at rv hu
      exact (hq i v d hv hd).shw I q) (by simpa [PyData.showable] using h1) fun t ht => Nat.le_trans (tupleText_mem_le ht) h4
    have rr : Reads s.heap (.ref a) (.tuple ds) _ := .tuple ho hc hdd ra
    have nin : a ∉ bs := not_mem_of_deeper rr (by unfold PyData.depth; omega) mm
    exact call_repr_slot (by omega) ⟨_, ho, hc⟩ PySem.F.slot_tuple_repr (call_tuple_reprK ho hc hdd nin kk hg (fun b _ => Clear.nil b) (by show X.A.units + 1 + _ < cLine; omega) (fun _ _ e => e) (fun h' t tk hk => ⟨_, _, rfl, fin h' t tk hk⟩) h4)
  | @dv a kq v d hs hf hq =>
    cases rx
    obtain ⟨o, es, ep, ho, hx, hdd, ⟨e, t, e1, e2, e3⟩, hne⟩ := rdD1 I hs
    obtain ⟨av, rv⟩ := hq.reads I (ft_noOb 3 hf) e3
    have ea : av = [] := reads_ft 3 hf rv
    have ra : ReadsAll s.heap (es.toList.map (·.key)) ([(PyData.str kq, d)].map (·.1)) ([] ++ []) := by rw [e1, List.map_cons, e2]; exact .cons (.str _ _) .nil
    have rb : ReadsAll s.heap (es.toList.map (·.val)) ([(PyData.str kq, d)].map (·.2)) (av ++ []) := by rw [e1]; exact .cons rv .nil
    have rr : Reads s.heap (.ref a) (.dict [(PyData.str kq, d)]) _ := Reads.dict ho hx.1 hdd ra rb
    exact PySem.repr_of_reads' rr h1 (fun _ z => by
      rw [ea] at z
      simp only [List.append_nil, List.mem_singleton] at z
      rw [← z] at hne
      simp at hne) hg (by omega) (fun _ _ e => e) (fun h' t tk hk => fin h' t tk hk) h4
  | ob o cn =>
    rw [ob_show] at h1; cases h1
  | @dic a kvs hs hz _ =>
    cases rx
    obtain ⟨o, es, ep, ho, hx, hdd, hp, hne⟩ := rdD I hs
    obtain ⟨as, ra, bs, rb⟩ := readsKV_of (h := s.heap) hp
    have rr : Reads s.heap (.ref a) (.dict (kvs.map fun p => (PyData.str p.1, PyData.int p.2))) _ := Reads.dict (as := as) (bs := bs) ho hx.1 hdd (by rw [List.map_map]; exact ra) (by rw [List.map_map]; exact rb)
    have em : ∀ {us : List Value} {ds : List PyData} {as : List Addr}, ReadsAll s.heap us ds as → (∀ d ∈ ds, (∃ z, d = .str z) ∨ ∃ i, d = .int i) → as = [] := fun {us ds as} r => by
      induction ds generalizing us as with
      | nil => intro _; cases r; rfl
      | cons d ds ih =>
        intro hd
        cases r with
        | cons r1 r2 =>
          rw [ih r2 fun d h => hd d (List.mem_cons_of_mem _ h)]
          rcases hd d (List.mem_cons_self ..) with ⟨z, rfl⟩ | ⟨i, rfl⟩
          · cases r1; rfl
          · cases r1; rfl
    have ea : as = [] := em ra fun d hd => by
      obtain ⟨p, _, rfl⟩ := List.mem_map.mp hd
      exact .inl ⟨_, rfl⟩
    have eb : bs = [] := em rb fun d hd => by
      obtain ⟨p, _, rfl⟩ := List.mem_map.mp hd
      exact .inr ⟨_, rfl⟩
    exact PySem.repr_of_reads' rr h1 (fun _ z => by
      rw [ea, eb] at z
      simp only [List.append_nil, List.mem_singleton] at z
      rw [← z] at hne
      simp at hne) hg (by omega) (fun _ _ e => e) (fun h' t tk hk => fin h' t tk hk) h4
section
variable {ι : Type} {Xf : ι → Cx} {P : Program} {w : World} {K : PySem.W.Frag} {mg : Str → Option Value} {base : Heap} {n : Nat} [F : Fam Xf P w K mg base n] [FD : FamD Xf]
include F FD in
theorem clRepr : Cl1 Xf K (.builtin "repr") .s gRepr := by
  refine ⟨rRepr K, fun i => by have := call_reprD (X := Xf i) (F.room i) (FD.gd i); rw [F.kk i] at this; exact this, fun {m G H σ e A x dx d Q} st hx ee k => ?_⟩
  have ee' := ee
  obtain ⟨hc, rfl⟩ := ite_some ee
  exact ⟨x, dx, rfl, hx.mono st.sub, ee', ans_s st (.str _ hc.2.2) k⟩
end
end DL
namespace DL
open PySem L2 PySem.Spec
section
variable {K : PySem.W.Frag} {G H : Hp}
theorem lend_in {tys m : List Ty} {ds e : List PyData} {vs : List V} {σ : St} {A1 B1 : List Addr} {k j : Nat} {t : Ty} {v0 : V} (oA : OwnA K G H tys ds (vs.map some) A1) (oB : OwnA K G H m e σ B1) (hm : m[j]? = some t) (hu : tys[k]? = some .u) (hv : vs[k]? = some v0) (hs : σ[j]? = some (some v0)) :
    ∃ A2 B2, OwnA K G H (tys.set k t) (ds.set k (e.getD j .none)) (vs.map some) A2 ∧ OwnA K G H (m.set j .u) e σ B2 ∧ (A1 ++ B1).Perm (A2 ++ B2) := by
  obtain ⟨dj, vj, Aj, B0, h1, h2, h3, h4, hp⟩ := ownA_take oB hm
  rw [hs] at h2
  obtain rfl := Option.some.inj h2
  obtain ⟨A2, o2, p2⟩ := ownA_put oA hu h3
  have hvs : (vs.map some).set k (some v0) = vs.map some := set_id (by rw [List.getElem?_map, hv]; rfl)
  rw [hvs] at o2
  have ed : e.getD j .none = dj := by rw [List.getD_eq_getElem?_getD, h1]; rfl
  rw [ed]
  refine ⟨A2, B0, o2, h4, List.perm_iff_count.mpr fun z => ?_⟩
  have a := List.perm_iff_count.mp hp z
  have b := List.perm_iff_count.mp p2 z
  simp only [List.count_append] at a b ⊢
  omega
theorem lend_out {tys m : List Ty} {fs e : List PyData} {vs : List V} {σ : St} {A3 B3 : List Addr} {k j : Nat} {t : Ty} {v0 : V} (oA : OwnA K G H tys fs (vs.map some) A3) (oB : OwnA K G H m e σ B3) (hk : tys[k]? = some t) (hu : m[j]? = some .u) (hv : vs[k]? = some v0) (hs : σ[j]? = some (some v0)) :
    ∃ A4 B4, OwnA K G H (tys.set k .u) fs (vs.map some) A4 ∧ OwnA K G H (m.set j t) (e.set j (fs.getD k .none)) σ B4 ∧ (A3 ++ B3).Perm (A4 ++ B4) := by
  obtain ⟨df, vf, Af, A4, g1, g2, g3, g4, gp⟩ := ownA_take oA hk
  have hvf : vf = some v0 := by rw [List.getElem?_map, hv] at g2; exact (Option.some.inj g2).symm
  subst hvf
  obtain ⟨B2, o4, p4⟩ := ownA_put oB hu g3
  rw [set_id (l := σ) hs] at o4
  have ef : fs.getD k .none = df := by rw [List.getD_eq_getElem?_getD, g1]; rfl
  rw [ef]
  refine ⟨A4, B2, g4, o4, List.perm_iff_count.mpr fun z => ?_⟩
  have a := List.perm_iff_count.mp gp z
  have b := List.perm_iff_count.mp p4 z
  simp only [List.count_append] at a b ⊢
  omega
end
def eCallL2 (Fn : DFn) (k1 j1 k2 j2 : Nat) (r : Lf) : Ef := fun e => (r e).bind fun p => (Fn ((p.1.set k1 (p.2.getD j1 .none)).set k2 (p.2.getD j2 .none))).bind fun q => some (q.1, (p.2.set j2 (q.2.getD k2 .none)).set j1 (q.2.getD k1 .none))
section
variable {ι : Type} {Xf : ι → Cx} {P : Program} {w : World} {K : PySem.W.Frag} {mg : Str → Option Value} {base : Heap} {n : Nat} [F : Fam Xf P w K mg base n] [FG : FamG Xf]
variable {m m1 m2 m3 : List Ty} {pos p p2 : Pos} {a b c : Expr} {es : List Expr} {f g h : Ef} {fr : Lf} {ty : Ty} {tys : List Ty} {L : List (Option Nat)}
include F FG in
theorem pd_callL2 {k k1 j1 k2 j2 : Nat} {x : Str} {rty t1 t2 : Ty} {Fn : DFn} (c : CalG P w K mg base k x tys rty Fn) {tys' : List Ty} (ha : PAL Xf K m (a :: es) tys' L fr m1) (hm1 : m1[j1]? = some t1 := by rfl) (hm2 : m1[j2]? = some t2 := by rfl) (hj : j1 ≠ j2 := by decide) (hkk : k1 ≠ k2 := by decide) (hL1 : L[k1]? = some (some j1) := by rfl) (hL2 : L[k2]? = some (some j2) := by rfl) (hu1 : tys'[k1]? = some .u := by rfl) (hu2 : tys'[k2]? = some .u := by rfl) (ht : (tys'.set k1 t1).set k2 t2 = tys := by rfl)
    (hk : k ≤ n := by decide) (hg : ∀ i, Gl (Xf i) x := by intro _; rfl)
    (hdb : (x == ("__debug__" : Str)) = false := by decide) (he : ∀ i, starEach (a :: es) (Xf i).env = (false, eval a (Xf i).env) :: starEach es (Xf i).env := by intro _; rfl) (hpl : ∀ i, (backTo pos (starEach es (Xf i).env)).any (·.1) = false := by intro _; rfl) :
    PD Xf K m (.Call (.Name x p) (a :: es) [] pos) rty (eCallL2 Fn k1 j1 k2 j2 fr) m1 := by
  obtain ⟨ta, pa, da⟩ := ha.ex
  refine ⟨_, fun i => pe_callG c hk i (hg i) (pa i) hdb (he i) (hpl i), fun {G H σ e A d e' Q} st hf k' => ?_⟩
  unfold eCallL2 at hf
  obtain ⟨⟨ds, e1⟩, hf1, hf⟩ := oBs hf
  obtain ⟨⟨d1, fs⟩, hf2, hf⟩ := oBs hf
  cases hf
  refine da st hf1 fun G1 H1 vs A1 B1 s1 st1 o1 nd1 lk => ?_
  obtain ⟨v1, hv1, hs1⟩ := lk k1 j1 hL1
  obtain ⟨v2, hv2, hs2⟩ := lk k2 j2 hL2
  obtain ⟨A2, B2, oA2, oB2, p2⟩ := lend_in o1 st1.own hm1 hu1 hv1 hs1
  have hm2' : (m1.set j1 .u)[j2]? = some t2 := by rw [List.getElem?_set_ne hj]; exact hm2
  have hu2' : (tys'.set k1 t1)[k2]? = some .u := by rw [List.getElem?_set_ne hkk]; exact hu2
  obtain ⟨A3, B3, oA3, oB3, p3⟩ := lend_in oA2 oB2 hm2' hu2' hv2 hs2
  rw [ht] at oA3
  have pall : (A1 ++ B1).Perm (B3 ++ A3) := (p2.trans p3).trans List.perm_append_comm
  have nd3 : (B3 ++ A3).Nodup := pall.nodup_iff.mp nd1
  have n3 := List.nodup_append.mp nd3
  refine ⟨_, _, fs, G1, A3, hf2, oA3, n3.2.1, st1.sub, fun G2 H2 v Av A4 s2 o4 ov nd4 sub2 => ?_⟩
  have s1' : Step A G H (B3 ++ A3) G1 H1 := ⟨s1.sg, s1.fr, fun a ha => s1.own a (pall.mem_iff.mpr ha), s1.gnew⟩
  obtain ⟨s3, nd5, hg', hh'⟩ := s1'.seq (ownA_at oB3) nd3 s2 nd4
  have oB4 := ownA_fr oB3 s2.sg hg' hh'
  have hk2 : tys[k2]? = some t2 := by
    rw [← ht, List.getElem?_set_self]
    have := (List.getElem?_eq_some_iff.mp hu2').1
    exact this
  have hk1 : tys[k1]? = some t1 := by
    rw [← ht, List.getElem?_set_ne (Ne.symm hkk), List.getElem?_set_self]
    exact (List.getElem?_eq_some_iff.mp hu1).1
  have hu3 : ((m1.set j1 .u).set j2 .u)[j2]? = some .u := by rw [List.getElem?_set_self (List.getElem?_eq_some_iff.mp hm2').1]
  obtain ⟨A5, B5, oA5, oB5, p5⟩ := lend_out o4 oB4 hk2 hu3 hv2 hs2
  rw [List.set_set, set_id hm2'] at oB5
  have hk1' : (tys.set k2 .u)[k1]? = some t1 := by rw [List.getElem?_set_ne (Ne.symm hkk)]; exact hk1
  have hu4 : (m1.set j1 .u)[j1]? = some .u := by rw [List.getElem?_set_self (List.getElem?_eq_some_iff.mp hm1).1]
  obtain ⟨A6, B6, oA6, oB6, p6⟩ := lend_out oA5 oB5 hk1' hu4 hv1 hs1
  rw [List.set_set, set_id hm1] at oB6
  have n5 := List.nodup_append.mp nd5
  have n6 := List.nodup_append.mp n5.2.1
  have pB : (B3 ++ A4).Perm (A6 ++ B6) := List.perm_append_comm.trans (p5.trans p6)
  have ndB : (B3 ++ A4).Nodup := List.nodup_append.mpr ⟨n5.1, n6.2.1, fun a ha b hb z => n5.2.2 a ha b (List.mem_append_right _ hb) z⟩
  have nB6 := (List.nodup_append.mp (pB.nodup_iff.mp ndB)).2.1
  have in6 : ∀ a ∈ B6, a ∈ B3 ∨ a ∈ A4 := fun a ha => List.mem_append.mp (pB.mem_iff.mpr (List.mem_append_right _ ha))
  refine k' G2 H2 v Av B6 (s3.less fun a ha => ?_) ⟨oB6, nB6, sub2⟩ ov (List.nodup_append.mpr ⟨n6.1, nB6, fun a ha b hb z => ?_⟩)
  · rcases List.mem_append.mp ha with z | z
    · exact List.mem_append_right _ (List.mem_append_left _ z)
    · rcases in6 a z with q | q
      · exact List.mem_append_left _ q
      · exact List.mem_append_right _ (List.mem_append_right _ q)
  · subst z
    rcases in6 a hb with q | q
    · exact n5.2.2 a q a (List.mem_append_left _ ha) rfl
    · exact n6.2.2 a ha a q rfl
end
end DL
namespace DL
open PySem L2 PySem.Spec
section
open PyProof.Rows PySem.SeqAt PySem.MeetsSeq PySem.MeetsSeq2 PySem.MeetsSeq3 HT
variable {prog : Program} {w : World} {A : Around} {E : Value → Shared → Prop} {s : Shared}
end
section
open PyProof.Rows
end
def gBack : PyData → Option PyData
  | .tuple xs => some (.tuple xs.reverse)
  | .list xs => some (.list xs.reverse)
  | _ => none
section
variable {ι : Type} {Xf : ι → Cx} {P : Program} {w : World} {K : PySem.W.Frag} {mg : Str → Option Value} {base : Heap} {n : Nat} [F : Fam Xf P w K mg base n]
variable {m m1 : List Ty} {a : Expr} {ef : Ef} {k : Nat} {p1 p2 p3 pos : Pos}
end
end DL
namespace DL
open PySem L2 PySem.Spec
def fgE (js : List Nat) (e : En) : En := js.foldl (fun e j => e.set j .none) e
def fgOk (js : List Nat) (m : List Ty) : Bool := js.all fun j => match m[j]? with | some .u => true | _ => false
def outE (js jr : List Nat) (o : Out) (e : En) : En := match o with | .rt _ => fgE jr e | _ => fgE js e
def iFg (js : List Nat) (lf : Lf) : Lf := fun e => (lf e).bind fun p => some (p.1, fgE js p.2)
def sPre (js : List Nat) (f : Sf) : Sf := fun e => f (fgE js e)
def sPost (js jr : List Nat) (f : Sf) : Sf := fun e => (f e).bind fun p => some (p.1, outE js jr p.1 p.2)
section
variable {K : PySem.W.Frag} {G H : Hp} {m m1 ml mn : List Ty} {σ : St} {e : En} {A : List Addr} {M : Mk} {f : Sf} {t : TS}
theorem ownA_fg {j : Nat} : ∀ {m : List Ty} {e : En} {σ : St} {A : List Addr} {j : Nat}, m[j]? = some .u → OwnA K G H m e σ A → OwnA K G H m (e.set j .none) σ A := by
  intro m
  induction m with
  | nil => intro e σ A j h; simp at h
  | cons t m ih =>
    intro e σ A j h o
    cases o with
    | @cons _ _ d ds v vs A B o1 o2 =>
      cases j with
      | zero =>
        simp only [List.getElem?_cons_zero, Option.some.injEq] at h
        subst h
        cases o1
        exact OwnA.cons (A := []) (.u _ _) o2
      | succ j =>
        simp only [List.getElem?_cons_succ] at h
        exact OwnA.cons o1 (ih h o2)
theorem stt_fg {js : List Nat} (ok : fgOk js m = true) (st : Stt K m G H σ e A) : Stt K m G H σ (fgE js e) A := by
  induction js generalizing e with
  | nil => exact st
  | cons j js ih =>
    simp only [fgOk, List.all_cons, Bool.and_eq_true] at ok
    refine ih ok.2 ⟨ownA_fg (j := 0) ?_ st.own, st.nd, st.sub⟩
    have := ok.1
    split at this
    · assumption
    · cases this
theorem WalkD.mono {wk : Bool} {G G' : Hp} {J : It} {ds : List PyData} (h : WalkD K wk G J ds) (s : Same G G') : WalkD K wk G' J ds :=
  ⟨fun i H hi s' => h.goes i H hi (s.trans s'), fun H s' => h.stops H (s.trans s'), fun hi s' st y => h.yields hi (s.trans s') st y⟩
theorem DS.post {js jr : List Nat} (h : DS K M m t f mn) (o1 : fgOk js mn = true) (o2 : fgOk js M.b = true) (o3 : fgOk js M.c = true) (o4 : fgOk jr M.r = true) : DS K M m t (sPost js jr f) mn := by
  intro G H σ e A o e' D st hf k
  obtain ⟨⟨o0, e0⟩, hf1, hf⟩ := oBs hf
  simp only [Option.some.injEq, Prod.mk.injEq] at hf
  obtain ⟨rfl, rfl⟩ := hf
  refine h st hf1 ?_
  cases o0 with
  | nx => exact fun G' H' σ' A' s' st' p' => k G' H' σ' A' s' (stt_fg o1 st') p'
  | bk => exact fun G' H' σ' A' s' st' p' => k G' H' σ' A' s' (stt_fg o2 st') p'
  | ct => exact fun G' H' σ' A' s' st' p' => k G' H' σ' A' s' (stt_fg o3 st') p'
  | rt d => exact fun G' H' σ' v Av A' s' st' ov nd p' => k G' H' σ' v Av A' s' (stt_fg o4 st') ov nd p'
end
section
variable {ι : Type} {Xf : ι → Cx} {K : PySem.W.Frag} {M : Mk} {m m1 ml mn : List Ty} {tg iter : Expr} {lf : Lf} {st : Stmt} {body : List Stmt} {f : Sf}
theorem pi_fg {wk : Bool} (js : List Nat) (h : PIt Xf K wk m tg iter lf m1) (l : LeM m1 ml) (ok : fgOk js ml = true := by first | decide | rfl | simp) : PIt Xf K wk m tg iter (iFg js lf) ml := by
  obtain ⟨wi, p, d⟩ := h.ex
  refine ⟨wi, p, fun {G H σ e A ds e' R} st hf k => ?_⟩
  obtain ⟨⟨ds1, e1⟩, hf1, hf⟩ := oBs hf
  simp only [Option.some.injEq, Prod.mk.injEq] at hf
  obtain ⟨rfl, rfl⟩ := hf
  refine d st hf1 fun G1 H1 A1 J s1 st1 wk hz => ?_
  obtain ⟨G2, A2, s2, st2⟩ := stt_le l st1
  exact k G2 H1 A2 J (s1.seq0 s2) (stt_fg ok st2) (wk.mono s2.sg) hz
theorem ss_post (js jr : List Nat) (h : PSsd Xf K M m body f mn) (o1 : fgOk js mn = true := by first | decide | rfl | simp) (o2 : fgOk js M.b = true := by first | decide | rfl | simp) (o3 : fgOk js M.c = true := by first | decide | rfl | simp) (o4 : fgOk jr M.r = true := by first | decide | rfl | simp) : PSsd Xf K M m body (sPost js jr f) mn := by
  obtain ⟨t, p, d⟩ := h.ex
  exact ⟨t, p, d.post o1 o2 o3 o4⟩
theorem ds_pre (js : List Nat) (h : PSd Xf K M m1 st f mn) (l : LeM m m1) (ok : fgOk js m1 = true := by first | decide | rfl | simp) : PSd Xf K M m st (sPre js f) mn := by
  obtain ⟨t, p, d⟩ := h.ex
  refine ⟨t, p, fun {G H σ e A o e' D} st hf k => ?_⟩
  obtain ⟨G2, A2, s2, st2⟩ := stt_le l st
  exact d (stt_fg ok st2) hf (k.back s2 Pin.refl)
end
end DL
namespace DL
open PySem L2 PySem.Spec
def gPopAt (l i : PyData) : Option (PyData × PyData) := match l, i with
  | .list ds, .int k => if -(2 ^ 63) ≤ k ∧ k < 2 ^ 63 then (ixN ds.length k).bind fun j => (ds[j]?).bind fun x => some (x, .list (ds.eraseIdx j)) else none
  | _, _ => none
def gExt (l x : PyData) : Option PyData := match l, x with
  | .list ds, .list es => if ds.length + es.length ≤ sizeLine then some (.list (ds ++ es)) else none
  | _, _ => none
def eNotT (b : Bf) : Ef := fun e => (b e).bind fun p => some (.bool (!p.1), p.2)
def ePopG (j : Nat) (f : Ef) : Ef := fun e => (f e).bind fun p => (gPopAt (p.2.getD j .none) p.1).bind fun q => some (q.1, p.2.set j q.2)
def eExt (j : Nat) (f : Ef) : Ef := fun e => (f e).bind fun p => (gExt (p.2.getD j .none) p.1).bind fun l => some (.none, p.2.set j l)
section
variable {K : PySem.W.Frag} {G H G1 H1 : Hp} {m m1 m2 mn : List Ty} {σ : St} {e : En} {A A1 : List Addr} {t : Ty} {ts : List Ty}
theorem slot_list {j : Nat} {Av : List Addr} {e1 : En} (s1 : Step A G H (Av ++ A1) G1 H1) (nd : (Av ++ A1).Nodup) (st : Stt K m G1 H1 σ e1 A1) (hm : m[j]? = some (.l .s)) :
    ∃ a vs ds, σ[j]? = some (some (.ref a)) ∧ e1.getD j .none = .list ds ∧ G1 a = none ∧ H1 a = some (.lst vs) ∧ vs.length ≤ sizeLine ∧ DqA K G1 vs ds ∧
      ∀ (vs' : List V) (ds' : List PyData), DqA K G1 vs' ds' → vs'.length ≤ sizeLine → ∃ A2, Step A G H A2 G1 (upd H1 a (.lst vs')) ∧ Stt K m G1 (upd H1 a (.lst vs')) σ (e1.set j (.list ds')) A2 := by
  obtain ⟨dj, vj, Aj, A0, h1, h2, h3, h4, hp⟩ := ownA_take st.own hm
  have n1 := List.nodup_append.mp (hp.nodup_iff.mp st.nd)
  cases h3 with
  | @l _ a vs ds Ai ga ha hz oi =>
    obtain ⟨rfl, q⟩ := of_ownA oi
    have haA : a ∈ A1 := hp.mem_iff.mpr (List.mem_append_left _ (List.mem_singleton.mpr rfl))
    have ne : ∀ b ∈ A0, b ≠ a := fun b hb z => n1.2.2 a (List.mem_singleton.mpr rfl) b hb z.symm
    refine ⟨a, vs, ds, h2, by rw [List.getD_eq_getElem?_getD, h1]; rfl, ga, ha, hz, q, fun vs' ds' q' hz' => ?_⟩
    have fr : ∀ b, b ≠ a → upd H1 a (.lst vs') b = H1 b := fun b hb => upd_ne hb
    have oN : Own K G1 (upd H1 a (.lst vs')) (.l .s) (.list ds') (some (.ref a)) (a :: []) := .l ga upd_same hz' (ownA_of q')
    have hu : (m.set j .u)[j]? = some .u := by rw [List.getElem?_set_self (List.getElem?_eq_some_iff.mp hm).1]
    obtain ⟨A2, o2, p2⟩ := ownA_put (ownA_fr (H' := upd H1 a (.lst vs')) h4 (Same.refl G1) (fun b hb => (ownA_at h4 b hb).1) fun b hb => fr b (ne b hb)) hu oN
    rw [List.set_set, set_id (l := m) hm, set_id (l := σ) h2] at o2
    have inA : ∀ b ∈ A2, b ∈ A1 := fun b hb => hp.mem_iff.mpr (p2.mem_iff.mp hb)
    refine ⟨A2, ⟨s1.sg, fun b o hb hbA => ?_, fun b hb => s1.own b (List.mem_append_right _ (inA b hb)), s1.gnew⟩, ⟨o2, p2.nodup_iff.mpr (hp.nodup_iff.mp st.nd), fun b o hb => ?_⟩⟩
    · have hne : b ≠ a := fun z => by
        rcases s1.own a (List.mem_append_right _ haA) with k | k
        · exact hbA (z ▸ k)
        · rw [← z, hb] at k; cases k
      rw [fr b hne]; exact s1.fr b o hb hbA
    · rw [fr b (ne_of_none hb ga)]; exact st.sub b o hb
theorem DqA.erase {vs : List V} {ds : List PyData} (q : DqA K G vs ds) (j : Nat) : DqA K G (vs.eraseIdx j) (ds.eraseIdx j) := by
  refine ⟨by rw [List.length_eraseIdx, List.length_eraseIdx, q.1], fun i v d h1 h2 => ?_⟩
  rw [List.getElem?_eraseIdx] at h1 h2
  split at h1
  · rename_i hi; rw [if_pos hi] at h2; exact q.2 _ _ _ h1 h2
  · rename_i hi; rw [if_neg hi] at h2; exact q.2 _ _ _ h1 h2
theorem DE.ext {ti : TE} {f : Ef} {j : Nat} (hm : m[j]? = some (.l .s)) (he : DE K m ti (.l .s) f m1) (hm1 : m1[j]? = some (.l .s)) : DE K m (tBM K "list" rExtend (tVar j) (tCons ti tNil)) .s (eExt j f) m1 := by
  intro G H σ e A d e' Q st hf k
  obtain ⟨⟨dx, e1⟩, hf1, hf⟩ := oBs hf
  obtain ⟨l, hf2, hf⟩ := oBs hf
  cases hf
  obtain ⟨a0, vs0, ds0, h0, _, _, ha0, _⟩ := slot_list (Av := []) (Step.refl (A := A)) st.nd st hm
  refine ⟨.ref a0, h0, .inl ⟨rfl, _, .inl (.inl ha0)⟩, ?_⟩
  refine he st hf1 fun G1 H1 y Av B1 s1 st1 ov ndv => ?_
  obtain ⟨a, vs, ds, h2, h1, ga, ha, hz, q, wr⟩ := slot_list s1 ndv st1 hm1
  rw [h0] at h2
  cases h2
  cases ov with
  | @l _ b ws es Bi gb hb hzb ob =>
    obtain ⟨rfl, qw⟩ := of_ownA ob
    rw [show List.getD (PyData.list es, e1).2 j .none = .list ds from h1] at hf2
    obtain ⟨hr, hf2⟩ := ite_some hf2
    cases hf2
    have l1 := q.1
    have l2 := qw.1
    obtain ⟨A2, s3, st3⟩ := wr (vs ++ ws) _ (q.append qw) (by rw [List.length_append]; omega)
    exact ⟨a0, b, vs, ws, rfl, rfl, ha, hb, by omega, k G1 _ .non [] A2 s3 st3 (.s .non) st3.nd⟩
end
section
variable {ι : Type} {Xf : ι → Cx} {P : Program} {w : World} {K : PySem.W.Frag} {mg : Str → Option Value} {base : Heap} {n : Nat} [F : Fam Xf P w K mg base n]
variable {m m1 : List Ty} {pos p p2 apos cpos xp : Pos} {a b v : Expr} {f : Ef} {fb : Bf}
include F in
theorem pd_notV (ha : PD Xf K m a .s f m1) : PD Xf K m (.UnaryOp .Not a pos) .s (eNotT (bOf f)) m1 := by
  obtain ⟨ta, pa, da⟩ := ha.ex
  refine ⟨fun σ H Q => ta σ H fun x H1 => ∃ k, TruV K x H1 k ∧ Q (.bl (!k)) H1, fun i => by have := pe_notT (pa i) (pos := pos); rw [F.kk i] at this; exact this, fun {G H σ e A d e' Q} st hf k => ?_⟩
  obtain ⟨⟨b1, e1⟩, hf1, hf⟩ := oBs hf
  cases hf
  obtain ⟨⟨dx, e2⟩, hf2, hf3⟩ := oBs (show (f e).bind (fun p => (gTruth p.1).bind fun b => some (b, p.2)) = some (b1, e1) from hf1)
  obtain ⟨c, hc, hf3⟩ := oBs hf3
  cases hf3
  refine da st hf2 fun G1 H1 x A1 B1 s1 st1 o1 nd1 => ?_
  cases o1 with
  | s q1 => exact ⟨_, truV_of q1 st1.sub hc, k G1 H1 _ [] B1 s1 st1 (.s (.bl _)) st1.nd⟩
theorem pd_dic0 : PD Xf K m (.Dict [] [] pos) .s (eC (.dict [])) m := by
  refine ⟨tDNewK, fun i => pe_dnewK, fun {G H σ e A d e' Q} st hf k => ?_⟩
  cases hf
  intro p hp
  obtain ⟨s1, st1, sg⟩ := new_s (o := .dK []) st hp
  exact k _ _ _ [] A s1 st1 (.s (.dic (kvs := []) (.inl upd_same) (by decide) fun _ => upd_same)) st1.nd
theorem pd_dic1 {x : Str} {c : Int} {j1 j2 p1 p2} : PD Xf K m (.Dict [some (.Constant (.str x) j1 p1)] [.Constant (.int c) j2 p2] pos) .s (eC (.dict [(.str x, .int c)])) m := by
  refine ⟨_, fun i => pe_disp (pps_cons pe_str pe_int pps_nil) rfl rfl (by simp) (by simp), fun {G H σ e A d e' Q} st hf k => ?_⟩
  cases hf
  intro p hp
  refine ⟨upd_same, [(Sum.inr x, .int c)], rfl, by simp, ?_⟩
  obtain ⟨s1, st1, sg⟩ := new_s (o := .dK [(Sum.inr x, .int c)]) st hp
  have e : upd (upd H p (.dK [])) p (.dK (mergeK [] [((Sum.inr x : Key), V.int c)])) = upd H p (.dK [(Sum.inr x, .int c)]) := by
    funext b
    by_cases z : b = p
    · subst z; rw [upd_same, upd_same]; rfl
    · rw [upd_ne z, upd_ne z, upd_ne z]
  rw [e]
  exact k _ _ _ [] A s1 st1 (.s (.dic (kvs := [(x, c)]) (.inl upd_same) (by simp) fun h => by cases h)) st1.nd
variable {M : Mk} {spos : Pos}
def gAddI : PyData → PyData → Option PyData
  | .int i, .int j => some (.int (i + j))
  | _, _ => none
variable {k : Nat} {x : Str} {rty : Ty} {Fn : DFn} [FG : FamG Xf]
def gStr : PyData → Option PyData
  | .int i => if i.natAbs.log2 < 1920 ∧ (toString i : Str).length ≤ sizeLine then some (.str (toString i)) else none
  | .str z => some (.str z)
  | .bool b => some (.str (if b = true then "True" else "False"))
  | _ => none
theorem call_str_bool {X : Cx} : CallR X (.type "str") (fun xs H Q => ∃ b : Bool, xs = [.bl b] ∧ Q (.str (if b then "True" else "False")) H) := by
  intro pins s σ H vs us Q I r h
  obtain ⟨b, rfl, q⟩ := h
  obtain ⟨u, rfl, ru⟩ := vals1 r
  cases ru
  exact PySem.P.str_of_bool ⟨.str (if b then "True" else "False"), H, I.tok _, ⟨_, rfl⟩, q⟩
include F in
theorem clStr : Cl1 Xf K (.type "str") .s gStr := by
  refine ⟨_, fun i => CallR.or call_str_bool (CallR.or call_str_int SkE.call_str_str), fun {m G H σ e A x dx d Q} st hx ee k => ?_⟩
  cases dx with
  | int i =>
    obtain ⟨hz, rfl⟩ := ite_some ee
    obtain rfl := dq_int hx
    exact .inr (.inl ⟨i, rfl, hz.1, ans_s st (.str _ hz.2) k⟩)
  | str z =>
    cases ee
    obtain ⟨rfl, hz⟩ := dq_str hx
    exact .inr (.inr ⟨z, rfl, ans_s st (.str _ hz) k⟩)
  | bool b =>
    cases ee
    obtain rfl := dq_bool hx
    refine .inl ⟨b, rfl, ans_s st (.str _ ?_) k⟩
    cases b <;> decide
  | _ => cases ee
end
end DL
namespace DL
open PySem L2 PySem.Spec PyProof.Rows
abbrev newSetO (w : World) : Obj :=
  { cls := .type "set", dict := none,
    data := .set #[] 0 (.fresh 0 0 (!w.params.followText "set-order")) }
abbrev withSet (w : World) (s : Shared) : Shared := { s with heap := s.heap.push (newSetO w) }
section
variable {P : Program} {w : World} {A : Around} {E : Value → Shared → Prop} {s : Shared}
theorem set_of_list {l : Addr} {its : Array Value} (ns : List Int) {Q : Value → Shared → Prop} (h0 : A.handled = none) (hL : s.heap.IsList l its) (hI : IntsAre its.toList ns) (hz : ns.length + 1 < scanBound)
    (k : ∀ (h2 : Heap) (tk c : Nat), SetR w h2 s.heap.objs.size (fun j => decide (j ∈ ns)) c → c ≤ ns.length → (∀ b o, s.heap.get? b = some o → h2.get? b = some o) → Q (.ref s.heap.objs.size) { s with heap := h2, toks := tk }) :
    wpAny (model P w) A (call (.type "set") [.ref l]) Q E s := by
  have size_eq : its.size = ns.length := by have := IntsAre.length hI; rwa [Array.length_toList] at this
  obtain ⟨cc, ct, cmro⟩ := F.called_set.mro
  have c1 := F.called_set.made
  have c2 := F.called_set.sub
  refine wpAny_call ?_
  refine codeAny_of_tree ?_
  show wpAny _ _ (callAny (.type "set") _) _ _ _
  refine wpAny_pure ⟨Code.quiet_builtin _ (by decide +kernel), ?_⟩
  refine codeAny_builtin F.entry_type_call ?_
  rw [Around.under_plain (weight_type_call_type "set" [.ref l] []) rfl]
  have c3 := F.called_set.notType
  have c4 := F.called_set.canCreate
  have c5 := F.typeCall_set_1 (.ref l)
  repeat any_goals first | assumption | wp_step
  refine codeAny_mono (code_set_led1 (.ref l) (E := E) (Q₁ := fun v t => v = .ref s.heap.objs.size ∧ t = withSet w s) ⟨rfl, rfl⟩) fun r1 t1 hr => ?_
  cases r1 with
  | error e => exact hr
  | ok fl =>
    cases fl with
    | ret v =>
      obtain ⟨rfl, rfl⟩ := hr
      have here : (s.heap.push (newSetO w)).get? s.heap.objs.size = some (newSetO w) := Heap.get?_push_size _ rfl
      have ty : (withSet w s).TypeIs (.ref s.heap.objs.size) "set" := ⟨_, here, rfl⟩
      have i1 := F.called_set.init.lookup
      have i2 := F.called_set.init.bind (.ref s.heap.objs.size)
      repeat any_goals first | assumption | wp_step
      refine codeAny_mono (codeAny_call_builtin (R := wants (fun r t => r = .none ∧ ∃ h2 tk c, t = { s with heap := h2, toks := tk } ∧ SetR w h2 s.heap.objs.size (fun j => decide (j ∈ ns)) c ∧ c ≤ ns.length ∧
        ∀ b o, s.heap.get? b = some o → h2.get? b = some o) E) F.called_set.init.plain F.entry_set_init (check_set_init_1 ty ?_)) fun r2 t2 hr2 => ?_
      · obtain ⟨lo, lg, lc, ln, ld⟩ := hL
        obtain ⟨oc, od, oa, os⟩ := lo
        simp only at lc ld
        subst lc
        subst ld
        have lg2 : (s.heap.push (newSetO w)).get? l = some { cls := .type "list", dict := od, data := .seq its ln, slots := os } := Heap.get?_push_of_some _ lg
        have n1 := F.sub_list_set
        have n2 := F.sub_list_frozenset
        have n3 : (Value.type "list" == Value.type "dict") = false := by decide
        have lis : (s.heap.push (newSetO w)).IsList l its := ⟨_, lg2, rfl, ln, rfl⟩
        unfold Builtin.«set.__init__» noKeywords
        unfold Builtin.Frozenset.updateFrom
        generalize hit : pyIter = ITER
        wp_walk
        subst hit
        refine wpAny_pyIter_list lis (wpAny_bind (wpAny_runValue ?_))
        have below : l < s.heap.objs.size := Heap.lt_size lg
        have hh3 : A.in1.in1.in1.handled = none := by simp [h0]
        have pz : (s.heap.push (newSetO w)).objs.size = s.heap.objs.size + 1 := Heap.size_push ..
        have apart : l ≠ (s.heap.push (newSetO w)).objs.size := by rw [pz]; exact Nat.ne_of_lt (Nat.lt_succ_of_lt below)
        have out : s.heap.objs.size ∉ [(s.heap.push (newSetO w)).objs.size, l] := by
          rw [pz]
          intro hm
          rcases List.mem_cons.mp hm with z | z
          · exact absurd z (Nat.ne_of_lt (Nat.lt_succ_self _))
          · exact absurd (List.mem_singleton.mp z).symm (Nat.ne_of_lt below)
        have vals : ∀ (i : Nat) (v : Value), its[i]? = some v → ∃ k t, ns[i]? = some k ∧ v = .int k t := fun i v hv => by
          have hi : i < ns.length := by rw [← size_eq]; exact (Array.getElem?_eq_some_iff.mp hv).1
          obtain ⟨t, e⟩ := IntsAre.int_at hI i v (by rw [Array.getElem?_toList]; exact hv)
          exact ⟨ns[i], t, List.getElem?_eq_getElem hi, by rw [e, List.getD_eq_getElem?_getD, List.getElem?_eq_getElem hi]; rfl⟩
        refine set_update_ints ((Walks.list hh3 _ l apart its).toS) s.heap.objs.size out ns size_eq hz vals (its.size - 0) 0 _ (by omega) (Nat.zero_le _) ⟨⟨_, Heap.get?_push_size _ rfl, rfl, rfl⟩, lis.push _⟩ ⟨0, Nat.le_refl 0, setR_new_at (Heap.get?_push_of_some _ here)⟩ fun t c hm hc hS => ?_
        obtain ⟨h2, g2, d2, tk2, os2⟩ := t
        have eg : g2 = s.gens := hm.gens
        have ed : d2 = s.drawn := hm.drawn
        have eo : os2 = s.os := hm.os
        subst eg
        subst ed
        subst eo
        show wpAny _ _ _ _ _ _
        refine wpAny_pure ?_
        show wpAny _ _ (ret Value.none) _ _ _
        refine wpAny_pure ⟨rfl, h2, tk2, c, rfl, hS, by rw [← size_eq]; exact hc, fun b o e => ?_⟩
        have b1 : b < s.heap.objs.size := Heap.lt_size e
        refine hm.heap b o (fun z => ?_) (Heap.get?_push_of_some _ (Heap.get?_push_of_some _ e))
        rcases List.mem_cons.mp z with z | z
        · exact absurd z (Nat.ne_of_lt b1)
        · have z2 := List.mem_singleton.mp z
          rw [pz] at z2
          exact absurd z2 (Nat.ne_of_lt (Nat.lt_succ_of_lt b1))
      · cases r2 with
        | error e => exact hr2
        | ok fl2 =>
          cases fl2 with
          | ret v2 =>
            obtain ⟨rfl, h2, tk, c, rfl, hS, hc, hk⟩ := hr2
            repeat any_goals first | assumption | wp_step
            exact k _ _ _ hS hc hk
          | _ => exact hr2.elim
    | _ => exact hr.elim
theorem sorted_of_set {p : Addr} {S : Int → Bool} {n : Nat} {Q : Value → Shared → Prop} (R : SetR w s.heap p S n) (h0 : A.handled = none)
    (k : ∀ t q (out : List Value) (c : Nat) (ns : List Int), (∀ b o, s.heap.get? b = some o → t.heap.get? b = some o) → t.gens = s.gens → t.os = s.os → s.heap.objs.size ≤ q →
      t.heap.get? q = some (seqObj "list" out.toArray c) → IntsAre out ns → ns.Pairwise (· < ·) → (∀ j, j ∈ ns ↔ S j = true) → ns.length = n → Q (.ref q) t) :
    wpAny (model P w) A (call (.builtin "sorted") [.ref p]) Q E s := by
  obtain ⟨o, es, ep, t, ho, hex, hd, good, nd, hm, hb, hf, hn, hr, hl⟩ := R
  refine Calls.call_function_entry kind_sorted plain_sorted entry_sorted (args_sorted1 _) ?_
  unfold Builtin.«sorted»
  refine wpAny_bind (m := checkCount "sorted" 1 1 _) ?_
  refine wpAny_pure ?_
  refine wpAny_bind (collect_set (A := A.in1) h0 ⟨o, ho, hex.1, hd⟩ hf hb hr hl fun s1 vs old zz g1 o1 pm => ?_)
  have lv : vs.length = n := by rw [pm.length_eq, List.length_map, Array.length_toList]; exact hn
  have shape : ∀ v ∈ vs, ∃ i t, v = Value.int i t := fun v hv => by
    obtain ⟨e, he, q⟩ := List.mem_map.mp (pm.mem_iff.mp hv)
    obtain ⟨i, tk, h1, _⟩ := good e he
    exact ⟨i, tk, by rw [← q]; exact h1⟩
  have hI := SrtO.ints_iv shape
  have pk : (vs.map SrtO.iv).Perm (es.toList.map keyOf) := by
    have q := pm.map SrtO.iv
    rw [List.map_map] at q
    refine q.trans (List.Perm.of_eq (List.map_congr_left fun e he => ?_))
    obtain ⟨i, tk, h1, _⟩ := good e he
    show SrtO.iv e.2 = keyOf e
    unfold keyOf
    rw [h1]; rfl
  have small : vs.length ≤ sizeLine := by rw [lv, ← hn]; exact fits_of_scanBound hb
  refine wpAny_bind (wpAny_newList ?_ small)
  have at1 : (s1.heap.push (seqObj "list" vs.toArray 0)).get? s1.heap.objs.size = some (seqObj "list" vs.toArray 0) := Heap.get?_push_size _ rfl
  refine wpAny_bind (wpAny_holding ?_)
  refine wpAny_call_entry slot_list_sort ⟨_, at1, rfl⟩ entry_list_sort (SrtO.list_sort_ord SrtO.swo_int at1 small (fun h2 => SrtO.ints_sortable hI h2) fun out a1 a2 => ⟨.none, rfl, ?_⟩) (args_list_sort _)
  obtain ⟨k1, k2, k3⟩ := SrtO.ints_out hI a1 a2
  obtain ⟨c, hc⟩ := sortedHeap_at (vs := vs) (out := out.toArray) at1
  have pn := k2.trans pk
  refine wpAny_pure ⟨_, rfl, k _ s1.heap.objs.size out c _ (fun b u e => ?_) g1 o1 zz hc k1 (lt_of_le_nodup _ k3 (pn.nodup_iff.mpr nd)) (fun j => by rw [pn.mem_iff, ← hm j]) (by rw [pn.length_eq, List.length_map, Array.length_toList]; exact hn)⟩
  have q := old b u e
  have lt := Heap.lt_size q
  show (sortedHeap (s1.heap.push (seqObj "list" vs.toArray 0)) s1.heap.objs.size vs out.toArray).get? b = some u
  rw [sortedHeap_old (Nat.ne_of_lt lt) (by rw [Heap.size_push]; exact Nat.lt_succ_of_lt lt)]
  exact Heap.get?_push_of_some _ q
end
theorem bt_set : bootBuiltins "set" = some (.type "set") := by decide +kernel
def SetI (w : World) (q : Addr) (ns : List Int) : HO := .ext fun h => ∃ c, SetR w h q (fun j => decide (j ∈ ns)) c
def rSetOf (K : PySem.W.Frag) (w : World) : List V → Hp → VK → Prop := fun xs H Q => ∃ (p : Addr) (ns : List Int), xs = [.ref p] ∧ (SqL K H p (ns.map V.int) ∨ SqT K H p (ns.map V.int)) ∧ ns.length + 1 < scanBound ∧
  ∀ q, H q = none → Q (.ref q) (upd H q (SetI w q ns))
def rSortSet (w : World) : List V → Hp → VK → Prop := fun xs H Q => ∃ (q : Addr) (ns : List Int), xs = [.ref q] ∧ H q = some (SetI w q ns) ∧
  ∀ (ms : List Int) (p : Addr), ms.Pairwise (· < ·) → (∀ j, j ∈ ms ↔ j ∈ ns) → H p = none → Q (.ref p) (upd H p (.lst (ms.map V.int)))
theorem setI_new {P : Program} {w : World} {H : Hp} {h : Heap} {q : Addr} {ns : List Int} {c : Nat} (R : SetR w h q (fun j => decide (j ∈ ns)) c) : ObjOk P w H h q (SetI w q ns) := by
  obtain ⟨o, _, _, _, ho, _⟩ := id R
  exact ⟨⟨c, R⟩, ⟨o, ho⟩, fun h1 h2 ⟨c', R'⟩ k => ⟨c', R'.at k⟩⟩
section
variable {X : Cx}
theorem setI_get {pins : List (Addr × Obj)} {σ : L2.St} {H : Hp} {s : Shared} {q : Addr} {ns : List Int} (I : Inv X pins σ H s) (h : H q = some (SetI X.w q ns)) : ∃ c, SetR X.w s.heap q (fun j => decide (j ∈ ns)) c := (I.hok q _ h).1
theorem call_setOf (hc : X.calm = true) : CallR X (.type "set") (rSetOf X.K X.w) := by
  intro pins s σ H xs us Q I r h
  obtain ⟨p, ns, rfl, hs, hz, k⟩ := h
  rw [Vals.ref1 r]
  have fin : ∀ (h2 : Heap) (tk c : Nat), SetR X.w h2 s.heap.objs.size (fun j => decide (j ∈ ns)) c → (∀ b o, s.heap.get? b = some o → h2.get? b = some o) → ∃ x H', Inv X pins σ H' { s with heap := h2, toks := tk } ∧ RelV x (.ref s.heap.objs.size) ∧ Q x H' := fun h2 tk c R old =>
    ⟨.ref _, upd H s.heap.objs.size (SetI X.w s.heap.objs.size ns), I.laid (t' := tk) old (Nat.le_refl _) (setI_new R), rfl, k _ (I.hok.fresh (Nat.le_refl _))⟩
  rcases hs with hs | hs
  · obtain ⟨its, rv, hL, _⟩ := I.list hs
    exact set_of_list ns (I.ok.hd hc) hL.isList rv.ints hz fun h2 tk c R _ old => fin h2 tk c R old
  · obtain ⟨its, rv, hL, _⟩ := I.tuple hs
    exact call_set_tupI ns (I.ok.hd hc) hL rv.ints hz fun h2 tk c R _ old => fin h2 tk c R old
theorem call_sortSet (hc : X.calm = true) : CallR X (.builtin "sorted") (rSortSet X.w) := by
  intro pins s σ H xs us Q I r h
  obtain ⟨q, ns, rfl, hq, k⟩ := h
  rw [Vals.ref1 r]
  obtain ⟨c, R⟩ := setI_get I hq
  refine sorted_of_set R (I.ok.hd hc) fun t p out n ms old e1 e2 hp ho hi pw mem len => ?_
  have room : (ms.map V.int).length ≤ sizeLine := by
    rw [List.length_map, len]
    obtain ⟨_, es, _, _, _, _, _, _, _, _, b, _, e, _⟩ := R
    rw [← e]; exact fits_of_scanBound b
  have free : H p = none := I.hok.fresh hp
  have J : Inv X pins σ (upd H p (.lst (ms.map V.int))) { s with heap := t.heap, gens := t.gens, drawn := t.drawn, toks := t.toks } :=
    I.call (ch := []) (Un.laid old hp free) (I.hok.laid old hp ⟨room, out, n, vals_of_ints hi, ho⟩) (by rw [e1]; exact I.bare) fun _ z => by cases z
  obtain ⟨th, tg, td, tt, to⟩ := t
  cases e2
  exact ⟨.ref p, _, J, rfl, k ms p pw (fun j => by rw [mem j]; simp) free⟩
end
def insU (x : Int) : List Int → List Int
  | [] => [x]
  | y :: ys => if x < y then x :: y :: ys else if x = y then y :: ys else y :: insU x ys
def sortSet : List Int → List Int
  | [] => []
  | x :: xs => insU x (sortSet xs)
theorem insU_mem {x j : Int} : ∀ {l : List Int}, j ∈ insU x l ↔ j = x ∨ j ∈ l
  | [] => by simp [insU]
  | y :: ys => by
    unfold insU
    split
    · simp
    · split
      · rename_i h; subst h; simp
      · rw [List.mem_cons, insU_mem, List.mem_cons]
        constructor
        · rintro (h | h | h) <;> simp [h]
        · rintro (h | h | h) <;> simp [h]
theorem insU_lt {x : Int} : ∀ {l : List Int}, l.Pairwise (· < ·) → (insU x l).Pairwise (· < ·)
  | [], _ => by simp [insU]
  | y :: ys, h => by
    obtain ⟨h1, h2⟩ := List.pairwise_cons.mp h
    unfold insU
    split
    · rename_i hx
      exact List.pairwise_cons.mpr ⟨fun z hz => by
        rcases List.mem_cons.mp hz with e | hz
        · rw [e]; exact hx
        · exact Int.lt_trans hx (h1 z hz), h⟩
    · split
      · exact h
      · rename_i a b
        refine List.pairwise_cons.mpr ⟨fun z hz => ?_, insU_lt h2⟩
        rcases insU_mem.mp hz with e | hz
        · rw [e]; omega
        · exact h1 z hz
theorem sortSet_lt : ∀ l : List Int, (sortSet l).Pairwise (· < ·)
  | [] => List.Pairwise.nil
  | x :: xs => insU_lt (sortSet_lt xs)
theorem sortSet_mem {j : Int} : ∀ {l : List Int}, j ∈ sortSet l ↔ j ∈ l
  | [] => Iff.rfl
  | x :: xs => by rw [sortSet, insU_mem, sortSet_mem, List.mem_cons]
theorem rising_one : ∀ {l m : List Int}, l.Pairwise (· < ·) → m.Pairwise (· < ·) → (∀ j, j ∈ l ↔ j ∈ m) → l = m
  | [], [], _, _, _ => rfl
  | [], y :: m, _, _, h => absurd ((h y).mpr (List.mem_cons_self ..)) (by simp)
  | x :: l, [], _, _, h => absurd ((h x).mp (List.mem_cons_self ..)) (by simp)
  | x :: l, y :: m, hl, hm, h => by
    obtain ⟨a1, a2⟩ := List.pairwise_cons.mp hl
    obtain ⟨b1, b2⟩ := List.pairwise_cons.mp hm
    have e : x = y := by
      rcases List.mem_cons.mp ((h x).mp (List.mem_cons_self ..)) with e | hx
      · exact e
      · rcases List.mem_cons.mp ((h y).mpr (List.mem_cons_self ..)) with e | hy
        · exact e.symm
        · have := a1 y hy; have := b1 x hx; omega
    subst e
    refine congrArg (x :: ·) (rising_one a2 b2 fun j => ⟨fun hj => ?_, fun hj => ?_⟩)
    · rcases List.mem_cons.mp ((h j).mp (List.mem_cons_of_mem _ hj)) with e | q
      · have := a1 j hj; omega
      · exact q
    · rcases List.mem_cons.mp ((h j).mpr (List.mem_cons_of_mem _ hj)) with e | q
      · have := b1 j hj; omega
      · exact q
def gSetOf : PyData → Option (List Int)
  | .list xs => (intsOf xs).bind fun ns => if ns.length < 4000 then some ns else none
  | .tuple xs => (intsOf xs).bind fun ns => if ns.length < 4000 then some ns else none
  | _ => none
def gSortSet (d : PyData) : Option PyData := (gSetOf d).map fun ns => .list ((sortSet ns).map .int)
section
variable {ι : Type} {Xf : ι → Cx} {P : Program} {w : World} {K : PySem.W.Frag} {mg : Str → Option Value} {base : Heap} {n : Nat} [F : Fam Xf P w K mg base n]
omit F in
theorem dqA_int {G : Hp} : ∀ ns : List Int, DqA K G (ns.map V.int) (ns.map PyData.int)
  | [] => DqA.nil
  | i :: ns => DqA.cons (.int i) (dqA_int ns)
omit F in
theorem setOf_in {G H : Hp} {x : V} {dx : PyData} {ns : List Int} (sub : Same G H) (h : Dq K G x dx) (e : gSetOf dx = some ns) : ∃ p, x = .ref p ∧ (SqL K H p (ns.map V.int) ∨ SqT K H p (ns.map V.int)) ∧ ns.length + 1 < scanBound := by
  have lim : ∀ {xs : List PyData}, ((intsOf xs).bind fun ns => if ns.length < 4000 then some ns else none) = some ns → intsOf xs = some ns ∧ ns.length < 4000 := fun q => by
    obtain ⟨ms, h1, h2⟩ := oBs q
    obtain ⟨h3, rfl⟩ := ite_some h2
    exact ⟨h1, h3⟩
  cases dx with
  | list ds =>
    obtain ⟨h1, h2⟩ := lim e
    obtain ⟨a, xs, rfl, r1, _, q1⟩ := dq_lst h
    rw [ints_eq h1] at q1
    obtain rfl := dqA_ints q1
    exact ⟨a, rfl, .inl (.inl (same_rd sub r1)), by show _ < 4096; omega⟩
  | tuple ds =>
    obtain ⟨h1, h2⟩ := lim e
    obtain ⟨a, xs, rfl, r1, _, q1⟩ := dq_tup h
    rw [ints_eq h1] at q1
    obtain rfl := dqA_ints q1
    exact ⟨a, rfl, .inr (same_seqT sub r1), by show _ < 4096; omega⟩
  | _ => cases e
variable {m m1 : List Ty} {pos p pos2 p2 : Pos} {a : Expr} {f : Ef} {x y : Str}
include F
theorem pd_sortSet [FG : FamG Xf] (hs : mg "sorted" = none) (vs : bootBuiltins "sorted" = some (.builtin "sorted")) (ht : mg "set" = none) (vt : bootBuiltins "set" = some (.type "set")) (ha : PD Xf K m a .s f m1) (gs : ∀ i, Gl (Xf i) "sorted" := by intro _; rfl) (gt : ∀ i, Gl (Xf i) "set" := by intro _; rfl)
    (he : ∀ i, starEach [a] (Xf i).env = (false, eval a (Xf i).env) :: starEach [] (Xf i).env := by intro _; rfl) (hpl : ∀ i, (backTo pos2 (starEach [] (Xf i).env)).any (·.1) = false := by intro _; rfl)
    (he2 : ∀ i, starEach [.Call (.Name "set" p2) [a] [] pos2] (Xf i).env = (false, eval (.Call (.Name "set" p2) [a] [] pos2) (Xf i).env) :: starEach [] (Xf i).env := by intro _; rfl) (hpl2 : ∀ i, (backTo pos (starEach [] (Xf i).env)).any (·.1) = false := by intro _; rfl) :
    PD Xf K m (.Call (.Name "sorted" p) [.Call (.Name "set" p2) [a] [] pos2] [] pos) (.l .s) (e1 gSortSet f) m1 := by
  obtain ⟨ta, pa, da⟩ := ha.ex
  have c1 : ∀ i, CallR (Xf i) (.type "set") (rSetOf K w) := fun i => by have := call_setOf (FG.calm i); rwa [F.kk i, F.w_ i] at this
  have c2 : ∀ i, CallR (Xf i) (.builtin "sorted") (rSortSet w) := fun i => by have := call_sortSet (FG.calm i); rwa [F.w_ i] at this
  refine ⟨_, fun i => pe_callB (c2 i) (gs i) (by rw [F.mg_ i]; exact hs) vs (pa_cons (pe_callTy (c1 i) (gt i) (by rw [F.mg_ i]; exact ht) vt (pa_cons (pa i) pa_nil (he i)) (by decide) (by decide) (he i) (hpl i)) pa_nil (he2 i)) (by decide) (by decide) (he2 i) (hpl2 i),
    DE.un (r := fun x H Q => rSetOf K w [x] H fun y H1 => rSortSet w [y] H1 Q) da ?_⟩
  intro m G H σ e A x dx d Q st hx ee k
  obtain ⟨ns, hn, rfl⟩ := Option.map_eq_some_iff.mp ee
  obtain ⟨p, rfl, hp, hz⟩ := setOf_in st.sub hx hn
  refine ⟨p, ns, rfl, hp, hz, fun q hq => ?_⟩
  obtain ⟨s1, st1, sg⟩ := new_s (o := SetI w q ns) st hq
  refine ⟨q, ns, rfl, upd_same, fun ms p2 hlt hmem hp2 => ?_⟩
  obtain rfl := rising_one hlt (sortSet_lt ns) fun j => (hmem j).trans sortSet_mem.symm
  have small : ((sortSet ns).map V.int).length ≤ sizeLine := by
    rw [List.length_map]
    have h1 : (sortSet ns).length ≤ ns.length := by
      have : ∀ l : List Int, (sortSet l).length ≤ l.length := fun l => by
        induction l with
        | nil => exact Nat.le_refl _
        | cons a l ih =>
          have : ∀ (x : Int) (l : List Int), (insU x l).length ≤ l.length + 1 := fun x l => by
            induction l with
            | nil => exact Nat.le_refl _
            | cons y l ih =>
              unfold insU
              split
              · exact Nat.le_refl _
              · split
                · exact Nat.le_succ _
                · simp only [List.length_cons]; omega
          have := this a (sortSet l)
          rw [sortSet, List.length_cons]; omega
      exact this ns
    have h2 : ns.length + 1 < 4096 := hz
    rw [sizeLine_eq]; omega
  exact ans_lst st1 (dqA_int _) small (fun G2 H2 v Av A2 s2 => k G2 H2 v Av A2 (s1.seq0 s2)) p2 hp2
end
end DL
namespace DL
open PySem L2 PySem.Spec
def isK (i : Int) : PyData → Bool
  | .int j => decide (j = i)
  | _ => false
def lookD (kvs : List (PyData × PyData)) (i : Int) : Option PyData := (kvs.find? fun p => isK i p.1).map (·.2)
def putD (kvs : List (PyData × PyData)) (i : Int) (x : PyData) : List (PyData × PyData) :=
  if (kvs.any fun p => isK i p.1) = true then kvs.map (fun p => if isK i p.1 = true then (p.1, x) else p) else kvs ++ [(.int i, x)]
def gDGet (d k : PyData) : Option PyData := match d, k with
  | .dict kvs, .int i => lookD kvs i
  | _, _ => none
def gDGet2 (d k z : PyData) : Option PyData := match d, k with
  | .dict kvs, .int i => some ((lookD kvs i).getD z)
  | _, _ => none
def gDPut (d k x : PyData) : Option PyData := match d, k with
  | .dict kvs, .int i => if kvs.length < sizeLine then some (.dict (putD kvs i x)) else none
  | _, _ => none
def kvD (p : Int × PyData) : PyData × PyData := (.int p.1, p.2)
def kvV (p : Int × V) : Key × V := (Sum.inl p.1, p.2)
def valI (ds : List (Int × PyData)) (i : Int) : Option PyData := (ds.find? fun p => decide (p.1 = i)).map (·.2)
def putI {α : Type} (ds : List (Int × α)) (i : Int) (x : α) : List (Int × α) :=
  if (ds.any fun p => decide (p.1 = i)) = true then ds.map (fun p => if p.1 = i then (p.1, x) else p) else ds ++ [(i, x)]
theorem putK_map (i : Int) (v : V) (kvs : List (Int × V)) : putK (kvs.map kvV) (Sum.inl i) v = (putI kvs i v).map kvV := by
  unfold putK putI
  have e : ((kvs.map kvV).any fun kv => decide (kv.1 = (Sum.inl i : Key))) = kvs.any fun p => decide (p.1 = i) := by
    rw [List.any_map]
    congr 1; funext p
    show decide ((Sum.inl p.1 : Key) = Sum.inl i) = decide (p.1 = i)
    exact decide_eq_decide.mpr ⟨fun h => Sum.inl.inj h, fun h => by rw [h]⟩
  rw [e]
  split
  · rw [List.map_map, List.map_map]
    refine List.map_congr_left fun p _ => ?_
    show (if (Sum.inl p.1 : Key) = Sum.inl i then ((Sum.inl p.1 : Key), v) else kvV p) = kvV (if p.1 = i then (p.1, v) else p)
    by_cases h : p.1 = i
    · rw [if_pos (by rw [h]), if_pos h]; rfl
    · rw [if_neg fun z => h (Sum.inl.inj z), if_neg h]
  · rw [List.map_append]; rfl
theorem putI_keys {α β : Type} {ds : List (Int × α)} {es : List (Int × β)} (h : ds.map (·.1) = es.map (·.1)) (i : Int) (x : α) (y : β) : (putI ds i x).map (·.1) = (putI es i y).map (·.1) := by
  have e : ∀ {γ : Type} (l : List (Int × γ)), (l.any fun p => decide (p.1 = i)) = (l.map (·.1)).any fun k => decide (k = i) := fun l => by rw [List.any_map]; rfl
  have e2 : ∀ {γ : Type} (l : List (Int × γ)) (z : γ), (l.map (fun p => if p.1 = i then (p.1, z) else p)).map (·.1) = l.map (·.1) := fun l z => by
    rw [List.map_map]
    refine List.map_congr_left fun p _ => ?_
    show (if p.1 = i then (p.1, z) else p).1 = p.1
    split <;> rfl
  unfold putI
  rw [e, e, h]
  split
  · rw [e2, e2, h]
  · rw [List.map_append, List.map_append, h]; rfl
theorem putI_len {α : Type} (ds : List (Int × α)) (i : Int) (x : α) : (putI ds i x).length ≤ ds.length + 1 := by
  unfold putI
  split
  · rw [List.length_map]; omega
  · rw [List.length_append]; exact Nat.le_refl _
section
variable {K : PySem.W.Frag} {G H G1 H1 : Hp} {m m1 m2 mn : List Ty} {σ : St} {e : En} {A A1 : List Addr} {t : Ty} {ts : List Ty}
theorem put_rel (i : Int) {v : V} {d : PyData} (hv : Dq K G v d) {kvs : List (Int × V)} {ds : List (Int × PyData)} (h : kvs.map (·.1) = ds.map (·.1)) (r : DqA K G (kvs.map (·.2)) (ds.map (·.2))) : DqA K G ((putI kvs i v).map (·.2)) ((putI ds i d).map (·.2)) := by
  have e : ∀ {γ : Type} (l : List (Int × γ)), (l.any fun p => decide (p.1 = i)) = (l.map (·.1)).any fun k => decide (k = i) := fun l => by rw [List.any_map]; rfl
  unfold putI
  rw [e, e, h]
  split
  · clear e
    rename_i z
    clear z
    induction kvs generalizing ds with
    | nil =>
      cases ds with
      | nil => exact DqA.nil
      | cons _ _ => simp at h
    | cons p kvs ih =>
      cases ds with
      | nil => simp at h
      | cons q ds =>
        simp only [List.map_cons, List.cons.injEq] at h
        rw [List.map_cons, List.map_cons] at r
        rw [List.map_cons, List.map_cons, List.map_cons, List.map_cons]
        refine DqA.cons ?_ (ih h.2 r.tail)
        rw [h.1]
        by_cases z : q.1 = i
        · rw [if_pos z, if_pos z]; exact hv
        · rw [if_neg z, if_neg z]; exact r.head
  · rw [List.map_append, List.map_append]
    exact r.append (DqA.cons hv DqA.nil)
end
def eDGet (j : Nat) (f : Ef) : Ef := fun e => (f e).bind fun p => (gDGet (p.2.getD j .none) p.1).bind fun d => some (d, p.2)
def eDOp (g : PyData → PyData → Option PyData) (j : Nat) (f : Ef) : Ef := fun e => (f e).bind fun p => (g (p.2.getD j .none) p.1).bind fun d => some (d, p.2)
def eDGet2 (j : Nat) (f h : Ef) : Ef := fun e => (f e).bind fun p => (h p.2).bind fun q => (gDGet2 (q.2.getD j .none) p.1 q.1).bind fun d => some (d, q.2)
def sDPutD (j : Nat) (fi fv : Ef) : Sf := fun e => (fv e).bind fun p => (fi p.2).bind fun q => (gDPut (q.2.getD j .none) q.1 p.1).bind fun d => some (.nx, q.2.set j d)
section
variable {ι : Type} {Xf : ι → Cx} {P : Program} {w : World} {K : PySem.W.Frag} {mg : Str → Option Value} {base : Heap} {n : Nat} [F : Fam Xf P w K mg base n]
variable {m m1 m2 m3 : List Ty} {pos p p2 apos cpos xp : Pos} {a b c : Expr} {f g h : Ef}
variable {M : Mk} {spos pos' : Pos}
end
end DL
namespace DL
open PySem L2 PySem.Spec
def gItm (j : Nat) (gi : Gq) : Gf := fun d e => (gi e).bind fun i => match e.getD j .none, i with
  | .list ds, .int k => (ixN ds.length k).map fun z => e.set j (.list (ds.set z d))
  | _, _ => none
section
variable {K : PySem.W.Frag} {G H G1 H1 : Hp} {m m1 m2 mn : List Ty} {σ : St} {e : En} {A A1 : List Addr} {t : Ty} {ts : List Ty}
theorem DG.itm {ti : TE} {gi : Gq} {j : Nat} (hm : m[j]? = some (.l .s)) (hi : DQv K m ti gi) : DG K false m (L2.gSub (tVar j) ti rSetL) [] (gItm j gi) m := by
  intro G H σ e A x d e' Q st q0 hf k
  have q := q0.strong
  obtain ⟨di, h2, hf⟩ := oBs hf
  obtain ⟨a, vs, ds, hs, h1, ga, ha, hz, qv, _⟩ := slot_list (Av := []) (Step.refl (A := A)) st.nd st hm
  rw [h1] at hf
  cases di with
  | int i =>
    obtain ⟨z, hj, hf⟩ := Option.map_eq_some_iff.mp hf
    cases hf
    refine ⟨.ref a, hs, hi st h2 fun H3 y sH3 qy => ?_⟩
    cases qy
    obtain ⟨s2, st2⟩ := stt_grow st sH3
    obtain ⟨a2, vs2, ds2, hs2, h12, ga2, ha2, hz2, qv2, wr⟩ := slot_list (Av := []) s2 st2.nd st2 hm
    rw [hs] at hs2
    cases hs2
    rw [h1] at h12
    cases h12
    have dz : z < ds.length := (ixN_seq hj).2.1
    obtain ⟨A2, s3, st3⟩ := wr (vs2.set z x) (ds.set z d) ⟨by rw [List.length_set, List.length_set, qv2.1], fun i v d' e1 e2 => by
      rw [List.getElem?_set] at e1 e2
      by_cases hz3 : z = i
      · subst hz3
        rw [if_pos rfl] at e1 e2
        have l1 : z < vs2.length := by rw [qv2.1]; exact dz
        simp [l1] at e1
        simp [dz] at e2
        rw [← e1, ← e2]; exact q
      · rw [if_neg hz3] at e1 e2
        exact qv2.2 _ _ _ e1 e2⟩ (by rw [List.length_set]; exact hz2)
    exact ⟨a, vs2, i, z, rfl, rfl, ha2, by rw [qv2.1]; exact hj, k G _ σ A2 s3 st3 (fun _ _ => rfl) rfl⟩
  | _ => cases hf
end
section
variable {ι : Type} {Xf : ι → Cx} {P : Program} {w : World} {K : PySem.W.Frag} {mg : Str → Option Value} {base : Heap} {n : Nat} [F : Fam Xf P w K mg base n]
variable {m m1 m2 m3 : List Ty} {pos p p2 apos cpos xp : Pos} {a b c i : Expr} {f g h : Ef} {gi : Gq}
end
end DL
namespace DL
open PySem L2 PySem.Spec PyProof.Rows
section
variable {X : Cx} {pins : List (Addr × Obj)} {σ : L2.St} {H : Hp} {s : Shared} {Q : VK}
end
end DL
namespace DL
open PySem L2 PySem.Spec
section
variable {ι : Type} {Xf : ι → Cx} {P : Program} {w : World} {K : PySem.W.Frag} {mg : Str → Option Value} {base : Heap} {n : Nat} [F : Fam Xf P w K mg base n]
variable {m m1 m2 m3 : List Ty} {pos p p2 apos cpos xp : Pos} {a b c : Expr} {f g h : Ef}
end
end DL
namespace DL
open PySem L2 PySem.Spec
def zip3D : List PyData → List PyData → List PyData → List PyData
  | a :: as, b :: bs, c :: cs => .tuple [a, b, c] :: zip3D as bs cs
  | _, _, _ => []
section
variable {K : PySem.W.Frag} {G H : Hp} {m : List Ty} {σ : St} {e : En} {A : List Addr}
end
def zip3S : PyData → PyData → PyData → Option (List PyData)
  | .tuple xs, .tuple ys, .tuple us => some (zip3D xs ys us)
  | _, _, _ => none
def iZp3 (f g h : Ef) : Lf := fun e => (f e).bind fun p => (g p.2).bind fun q => (h q.2).bind fun r => (zip3S p.1 q.1 r.1).bind fun ds => some (ds, r.2)
section
variable {ι : Type} {Xf : ι → Cx} {P : Program} {w : World} {K : PySem.W.Frag} {mg : Str → Option Value} {base : Heap} {n : Nat} [F : Fam Xf P w K mg base n]
variable {m m1 m2 m3 : List Ty} {pos p p2 tpos : Pos} {a b c tg : Expr} {elts : List Expr} {kk : Nat} {f g h : Ef}
include F
end
@[simp] theorem riZp3 {f g h : Ef} {e : En} : iZp3 f g h e = (f e).bind fun p => (g p.2).bind fun q => (h q.2).bind fun r => (zip3S p.1 q.1 r.1).bind fun ds => some (ds, r.2) := rfl
@[simp] theorem xZip3 {xs ys us : List PyData} : zip3S (.tuple xs) (.tuple ys) (.tuple us) = some (zip3D xs ys us) := rfl
end DL
namespace DL
open PySem L2 PySem.Spec
def evens {α : Type} : List α → List α
  | [] => []
  | [a] => [a]
  | a :: _ :: r => a :: evens r
section
open PyProof.Rows PySem.SeqAt PySem.MeetsSeq PySem.MeetsSeq2 PySem.MeetsSeq3 HT
variable {prog : Program} {w : World} {A : Around} {E : Value → Shared → Prop} {s : Shared}
end
section
open PyProof.Rows
end
def gTwo : PyData → Option PyData
  | .tuple xs => some (.tuple (evens xs))
  | _ => none
section
variable {ι : Type} {Xf : ι → Cx} {P : Program} {w : World} {K : PySem.W.Frag} {mg : Str → Option Value} {base : Heap} {n : Nat} [F : Fam Xf P w K mg base n]
variable {m m1 : List Ty} {a : Expr} {ef : Ef} {k : Nat} {p1 p3 pos : Pos}
end
@[simp] theorem xTwo {xs : List PyData} : gTwo (.tuple xs) = some (.tuple (evens xs)) := rfl
end DL
namespace DL
open PySem L2 PySem.Spec
section
variable {K : PySem.W.Frag} {M : Mk} {G H G1 H1 : Hp} {m m1 m2 mn : List Ty} {σ σ1 : St} {e : En} {A A1 : List Addr} {D : Ends} {e' : En} {o : Out} {t u : TS} {f g : Sf} {ef : Ef} {bf : Bf} {lf : Lf}
end
section
variable {ι : Type} {Xf : ι → Cx} {P : Program} {w : World} {K : PySem.W.Frag} {mg : Str → Option Value} {base : Heap} {n : Nat} [F : Fam Xf P w K mg base n]
variable {M : Mk} {m m1 m2 mn ml : List Ty} {pos p p2 spos xp : Pos} {a b c v tg iter : Expr} {st : Stmt} {rest body orelse : List Stmt} {f g : Sf} {ef eg : Ef} {bf : Bf} {lf : Lf} {gf : Gf} {sl : List Nat} {ty t1 t2 t3 : Ty}
end
end DL
namespace DL
open PySem L2 PySem.Spec
def gTpL (k : Nat) (r : Gsf) : Gf := fun d e => match d with | .list ds => if ds.length = k then r ds e else none | _ => none
section
variable {ι : Type} {Xf : ι → Cx} {P : Program} {w : World} {K : PySem.W.Frag} {mg : Str → Option Value} {base : Heap} {n : Nat} [F : Fam Xf P w K mg base n]
variable {m m1 : List Ty} {tpos : Pos} {elts : List Expr} {sl : List Nat} {gs : Gsf}
end
def un2L : PyData → Option (PyData × PyData)
  | .list [a, b] => some (a, b)
  | _ => none
@[simp] theorem un2L_ok {x y : PyData} : un2L (.list [x, y]) = some (x, y) := rfl
@[simp] theorem rgTpL2 {gf gf2 : Gf} {d : PyData} {e : En} : gTpL 2 (gsCons gf (gsCons gf2 gsNil)) d e = (un2L d).bind fun p => (gf p.1 e).bind fun e => gf2 p.2 e := by
  unfold gTpL un2L
  cases d with
  | list ds =>
    match ds with
    | [] => rfl
    | [a] => rfl
    | [a, b] =>
      show ((gf a e).bind fun e => (gf2 b e).bind fun e => some e) = (gf a e).bind fun e => gf2 b e
      congr 1; funext e1
      cases gf2 b e1 <;> rfl
    | _ :: _ :: _ :: _ => rfl
  | _ => rfl
end DL
namespace DL
open PySem L2 PySem.Spec
section
variable {ι : Type} {Xf : ι → Cx} {P : Program} {w : World} {K : PySem.W.Frag} {mg : Str → Option Value} {base : Heap} {n : Nat} [F : Fam Xf P w K mg base n]
variable {m : List Ty} {pos p p1 p2 : Pos}
end
end DL
namespace DL
open PySem L2 PySem.Spec
def gDisp2 (k1 v1 k2 v2 : PyData) : Option PyData := match k1, k2 with
  | .int i, .int j => some (.dict (putD (putD [] i v1) j v2))
  | _, _ => none
def eDisp2 (f1 f2 f3 f4 : Ef) : Ef := fun e => (f1 e).bind fun p1 => (f2 p1.2).bind fun p2 => (f3 p2.2).bind fun p3 => (f4 p3.2).bind fun p4 => (gDisp2 p1.1 p2.1 p3.1 p4.1).bind fun d => some (d, p4.2)
section
variable {ι : Type} {Xf : ι → Cx} {P : Program} {w : World} {K : PySem.W.Frag} {mg : Str → Option Value} {base : Heap} {n : Nat} [F : Fam Xf P w K mg base n]
variable {m m1 m2 m3 m4 : List Ty} {pos : Pos} {a b c d0 : Expr} {f1 f2 f3 f4 : Ef}
end
@[simp] theorem reDisp2 {f1 f2 f3 f4 : Ef} {e : En} : eDisp2 f1 f2 f3 f4 e = (f1 e).bind fun p1 => (f2 p1.2).bind fun p2 => (f3 p2.2).bind fun p3 => (f4 p3.2).bind fun p4 => (gDisp2 p1.1 p2.1 p3.1 p4.1).bind fun d => some (d, p4.2) := rfl
end DL
namespace DL
open PySem L2 PySem.Spec
section
variable {ι : Type} {Xf : ι → Cx} {P : Program} {w : World} {K : PySem.W.Frag} {mg : Str → Option Value} {base : Heap} {n : Nat} [F : Fam Xf P w K mg base n]
variable {m : List Ty} {pos : Pos}
include F
end
end DL
namespace DL
open PySem L2 PySem.Spec
section
variable {K : PySem.W.Frag} {G H : Hp} {m : List Ty} {σ : St} {e : En} {A : List Addr}
end
def zipMS : PyData → PyData → Option (List PyData)
  | .tuple xs, .list ys => some (zipD xs ys)
  | _, _ => none
def iZpM (f g : Ef) : Lf := fun e => (f e).bind fun p => (g p.2).bind fun q => (zipMS p.1 q.1).bind fun ds => some (ds, q.2)
section
variable {ι : Type} {Xf : ι → Cx} {P : Program} {w : World} {K : PySem.W.Frag} {mg : Str → Option Value} {base : Heap} {n : Nat} [F : Fam Xf P w K mg base n]
variable {m m1 m2 m3 : List Ty} {pos p p2 tpos : Pos} {a b c tg : Expr} {elts : List Expr} {kk : Nat} {f g h : Ef}
include F
end
@[simp] theorem riZpM {f g : Ef} {e : En} : iZpM f g e = (f e).bind fun p => (g p.2).bind fun q => (zipMS p.1 q.1).bind fun ds => some (ds, q.2) := rfl
@[simp] theorem xZipM {xs ys : List PyData} : zipMS (.tuple xs) (.list ys) = some (zipD xs ys) := rfl
end DL
namespace DL
open PySem L2 PySem.Spec
section
variable {ι : Type} {Xf : ι → Cx} {P : Program} {w : World} {K : PySem.W.Frag} {mg : Str → Option Value} {base : Heap} {n : Nat} [F : Fam Xf P w K mg base n]
variable {m : List Ty} {pos p1 : Pos}
end
end DL
namespace DL
open PySem L2 PySem.Spec
def asB : PyData → Option Bool
  | .bool b => some b
  | _ => none
def ifB {α : Type} (v : PyData) (a b : Option α) : Option α := match v with
  | .bool true => a
  | .bool false => b
  | _ => none
def grd (b : Bool) : Option Unit := if b = true then some () else none
def un2 : PyData → Option (PyData × PyData)
  | .tuple [a, b] => some (a, b)
  | _ => none
def un3 : PyData → Option (PyData × PyData × PyData)
  | .tuple [a, b, c] => some (a, b, c)
  | _ => none
def un4 : PyData → Option (PyData × PyData × PyData × PyData)
  | .tuple [a, b, c, d] => some (a, b, c, d)
  | _ => none
def gApp (l x : PyData) : Option PyData := match l with
  | .list ds => if ds.length < sizeLine then some (.list (ds ++ [x])) else none
  | _ => none
def gPop : PyData → Option (PyData × PyData)
  | .list ds => (ds[ds.length - 1]?).bind fun x => some (x, .list ds.dropLast)
  | _ => none
def gSet (l i x : PyData) : Option PyData := match l, i with
  | .list ds, .int k => (ixN ds.length k).bind fun j => some (.list (ds.set j x))
  | _, _ => none
def gEn (d : PyData) : Option (List PyData) := (seqD d).bind fun ds => some (enumD 0 ds)
def consO {α : Type} : Option α → List α → List α
  | some y, ys => y :: ys
  | none, ys => ys
def mapS {α β : Type} : List α → (α → Option β) → Option (List β)
  | [], _ => some []
  | x :: xs, f => (f x).bind fun y => (mapS xs f).bind fun ys => some (y :: ys)
def filS {α β : Type} : List α → (α → Option (Option β)) → Option (List β)
  | [], _ => some []
  | x :: xs, f => (f x).bind fun y => (filS xs f).bind fun ys => some (consO y ys)
def mapE {α β σ : Type} : List α → (α → σ → Option (β × σ)) → σ → Option (List β × σ)
  | [], _, s => some ([], s)
  | x :: xs, f, s => (f x s).bind fun p => (mapE xs f p.2).bind fun q => some (p.1 :: q.1, q.2)
def foldS {α σ : Type} : List α → (α → σ → Option σ) → σ → Option σ
  | [], _, s => some s
  | x :: xs, f, s => (f x s).bind fun s' => foldS xs f s'
def forS {α σ : Type} : List α → (α → σ → Option (Out × σ)) → σ → Option (Out × σ)
  | [], _, s => some (.nx, s)
  | x :: xs, f, s => (f x s).bind fun p => match p.1 with
    | .nx => forS xs f p.2
    | .ct => forS xs f p.2
    | .bk => some (.nx, p.2)
    | .rt r => some (.rt r, p.2)
def whR {σ : Type} : Nat → (σ → Option Bool) → (σ → Option (Out × σ)) → σ → Option (Out × σ)
  | 0, _, _, _ => none
  | k + 1, c, f, s => (c s).bind fun b => if b = true then (f s).bind fun p => match p.1 with
    | .nx => whR k c f p.2
    | .ct => whR k c f p.2
    | .bk => some (.nx, p.2)
    | .rt r => some (.rt r, p.2) else some (.nx, s)
def thenS {σ ρ : Type} (p : Out × σ) (k : σ → Option ρ) (r : PyData → σ → Option ρ) : Option ρ := match p.1 with
  | .rt d => r d p.2
  | _ => k p.2
def ctnx : Out → Out
  | .ct => .nx
  | o => o
theorem lc_map {vs : List Nat} {gf : Gf} {ef : Ef} {E : En} (f : PyData → Option PyData) (h : ∀ d, ((gf d E).bind fun e1 => (ef e1).bind fun q => some (q.1, restE E q.2 vs)) = (f d).bind fun r => some (r, E)) :
    ∀ xs, lcL vs gf bYes ef xs E = (mapS xs f).bind fun r => some (r, E)
  | [] => rfl
  | x :: xs => by
    have ih := lc_map f h xs
    have hx := h x
    unfold lcL mapS
    simp only [bYes, Option.bind_some, if_true]
    cases hf : f x with
    | none =>
      rw [hf] at hx
      simp only [Option.bind_none] at hx
      cases hg : gf x E with
      | none => rfl
      | some e1 =>
        rw [hg] at hx
        simp only [Option.bind_some, Option.bind_eq_none_iff] at hx
        cases he : ef e1 with
        | none => simp [he]
        | some q => exact absurd (hx q he) (by simp)
    | some y =>
      rw [hf] at hx
      cases hg : gf x E with
      | none => rw [hg] at hx; simp at hx
      | some e1 =>
        rw [hg] at hx
        simp only [Option.bind_some] at hx ⊢
        cases he : ef e1 with
        | none => rw [he] at hx; simp at hx
        | some q =>
          rw [he] at hx
          simp only [Option.bind_some, Option.some.injEq, Prod.mk.injEq] at hx ⊢
          rw [hx.2, ih, hx.1]
          cases mapS xs f <;> rfl
theorem lc_mapE {σ : Type} {vs : List Nat} {gf : Gf} {ef : Ef} (emb : σ → En) (f : PyData → σ → Option (PyData × σ)) (h : ∀ d s, ((gf d (emb s)).bind fun e1 => (ef e1).bind fun q => some (q.1, restE (emb s) q.2 vs)) = (f d s).bind fun r => some (r.1, emb r.2)) :
    ∀ xs s, lcL vs gf bYes ef xs (emb s) = (mapE xs f s).bind fun r => some (r.1, emb r.2)
  | [], s => rfl
  | x :: xs, s => by
    have hx := h x s
    unfold lcL mapE
    simp only [bYes, Option.bind_some, if_true]
    cases hf : f x s with
    | none =>
      rw [hf] at hx
      simp only [Option.bind_none] at hx
      cases hg : gf x (emb s) with
      | none => rfl
      | some e1 =>
        rw [hg] at hx
        simp only [Option.bind_some, Option.bind_eq_none_iff] at hx
        cases he : ef e1 with
        | none => simp [he]
        | some q => exact absurd (hx q he) (by simp)
    | some y =>
      rw [hf] at hx
      cases hg : gf x (emb s) with
      | none => rw [hg] at hx; simp at hx
      | some e1 =>
        rw [hg] at hx
        simp only [Option.bind_some] at hx ⊢
        cases he : ef e1 with
        | none => rw [he] at hx; simp at hx
        | some q =>
          rw [he] at hx
          simp only [Option.bind_some, Option.some.injEq, Prod.mk.injEq] at hx ⊢
          rw [hx.2, lc_mapE emb f h xs y.2, hx.1]
          cases mapE xs f y.2 <;> rfl
def lcB (vs : List Nat) (gf : Gf) (tf : Bf) (ef : Ef) (d : PyData) (E : En) : Option (Option PyData × En) :=
  (gf d E).bind fun e1 => (tf e1).bind fun p => if p.1 = true then (ef p.2).bind fun q => some (some q.1, restE E q.2 vs) else some (none, restE E p.2 vs)
theorem lcL_B {vs : List Nat} {gf : Gf} {tf : Bf} {ef : Ef} {x : PyData} {xs : List PyData} {E : En} : lcL vs gf tf ef (x :: xs) E = (lcB vs gf tf ef x E).bind fun p => (lcL vs gf tf ef xs p.2).bind fun r => some (consO p.1 r.1, r.2) := by
  show ((gf x E).bind fun e1 => (tf e1).bind fun p => if p.1 = true then (ef p.2).bind fun q => (lcL vs gf tf ef xs (restE E q.2 vs)).bind fun r => some (q.1 :: r.1, r.2) else lcL vs gf tf ef xs (restE E p.2 vs)) = _
  unfold lcB
  cases gf x E with
  | none => rfl
  | some e1 =>
    simp only [Option.bind_some]
    cases tf e1 with
    | none => rfl
    | some p =>
      simp only [Option.bind_some]
      split
      · cases ef p.2 <;> rfl
      · simp only [Option.bind_some]
        cases lcL vs gf tf ef xs (restE E p.2 vs) <;> rfl
theorem lc_fil {vs : List Nat} {gf : Gf} {tf : Bf} {ef : Ef} {E : En} (f : PyData → Option (Option PyData)) (h : ∀ d, lcB vs gf tf ef d E = (f d).bind fun r => some (r, E)) :
    ∀ xs, lcL vs gf tf ef xs E = (filS xs f).bind fun r => some (r, E)
  | [] => rfl
  | x :: xs => by
    rw [lcL_B, h x]
    unfold filS
    cases hf : f x with
    | none => rfl
    | some y =>
      simp only [Option.bind_some]
      rw [lc_fil f h xs]
      cases filS xs f <;> rfl
theorem for_fold {σ : Type} {gf : Gf} {sf : Sf} (emb : σ → En) (f : PyData → σ → Option σ) (h : ∀ d s, ((gf d (emb s)).bind fun e1 => (sf e1).bind fun p => some (ctnx p.1, p.2)) = (f d s).bind fun r => some (.nx, emb r)) :
    ∀ xs s, forL gf sf xs (emb s) = (foldS xs f s).bind fun r => some (.nx, emb r)
  | [], s => rfl
  | x :: xs, s => by
    have hx := h x s
    unfold forL foldS
    cases hg : gf x (emb s) with
    | none =>
      rw [hg] at hx
      cases hf : f x s with
      | none => rfl
      | some y => rw [hf] at hx; simp at hx
    | some e1 =>
      rw [hg] at hx
      simp only [Option.bind_some] at hx ⊢
      cases he : sf e1 with
      | none =>
        rw [he] at hx
        cases hf : f x s with
        | none => rfl
        | some y => rw [hf] at hx; simp at hx
      | some p =>
        rw [he] at hx
        cases hf : f x s with
        | none => rw [hf] at hx; simp at hx
        | some y =>
          rw [hf] at hx
          simp only [Option.bind_some, Option.some.injEq, Prod.mk.injEq] at hx ⊢
          have ih := for_fold emb f h xs y
          obtain ⟨o, e2⟩ := p
          simp only at hx ⊢
          rw [hx.2]
          cases o with
          | nx => exact ih
          | ct => exact ih
          | bk => cases hx.1
          | rt d => cases hx.1
theorem for_ret {σ : Type} {gf : Gf} {sf : Sf} {jr : List Nat} (emb : σ → En) (f : PyData → σ → Option (Out × σ)) (h : ∀ d s, ((gf d (emb s)).bind fun e1 => (sf e1).bind fun p => some (ctnx p.1, p.2)) = (f d s).bind fun r => some (ctnx r.1, outE [] jr r.1 (emb r.2))) :
    ∀ xs s, forL gf sf xs (emb s) = (forS xs f s).bind fun r => thenS r (fun s' => some (.nx, emb s')) (fun d s' => some (.rt d, fgE jr (emb s')))
  | [], s => rfl
  | x :: xs, s => by
    have hx := h x s
    unfold forL forS
    cases hg : gf x (emb s) with
    | none =>
      rw [hg] at hx
      cases hf : f x s with
      | none => rfl
      | some y => rw [hf] at hx; simp at hx
    | some e1 =>
      rw [hg] at hx
      simp only [Option.bind_some] at hx ⊢
      cases he : sf e1 with
      | none =>
        rw [he] at hx
        cases hf : f x s with
        | none => rfl
        | some y => rw [hf] at hx; simp at hx
      | some p =>
        rw [he] at hx
        cases hf : f x s with
        | none => rw [hf] at hx; simp at hx
        | some y =>
          rw [hf] at hx
          simp only [Option.bind_some, Option.some.injEq, Prod.mk.injEq] at hx ⊢
          have ih := for_ret emb f h xs y.2
          obtain ⟨o, e2⟩ := p
          obtain ⟨q, s2⟩ := y
          simp only at hx ih ⊢
          rw [hx.2]
          cases q <;> cases o <;> first | (cases hx.1; done) | exact ih | (have := hx.1; simp [ctnx] at this; done) | skip
          · rfl
          · have := hx.1; simp only [ctnx, Out.rt.injEq] at this; subst this; rfl
theorem wh_ret {σ : Type} {cf : Bf} {sf : Sf} {jr : List Nat} (emb : σ → En) (c : σ → Option Bool) (f : σ → Option (Out × σ)) (hc : ∀ s, cf (emb s) = (c s).bind fun b => some (b, emb s)) (h : ∀ s, ((sf (emb s)).bind fun p => some (ctnx p.1, p.2)) = (f s).bind fun r => some (ctnx r.1, outE [] jr r.1 (emb r.2))) :
    ∀ n s, whL cf sf n (emb s) = (whR n c f s).bind fun r => thenS r (fun s' => some (.nx, emb s')) (fun d s' => some (.rt d, fgE jr (emb s')))
  | 0, s => rfl
  | n + 1, s => by
    have hx := h s
    unfold whL whR
    rw [hc]
    cases hcs : c s with
    | none => rfl
    | some b =>
      simp only [Option.bind_some]
      cases b with
      | false => rfl
      | true =>
        simp only [if_true]
        cases he : sf (emb s) with
        | none =>
          rw [he] at hx
          cases hf : f s with
          | none => rfl
          | some y => rw [hf] at hx; simp at hx
        | some p =>
          rw [he] at hx
          cases hf : f s with
          | none => rw [hf] at hx; simp at hx
          | some y =>
            rw [hf] at hx
            simp only [Option.bind_some, Option.some.injEq, Prod.mk.injEq] at hx ⊢
            have ih := wh_ret emb c f hc h n y.2
            obtain ⟨o, e2⟩ := p
            obtain ⟨q, s2⟩ := y
            simp only at hx ih ⊢
            rw [hx.2]
            cases q <;> cases o <;> first | (cases hx.1; done) | exact ih | (have := hx.1; simp [ctnx] at this; done) | skip
            · rfl
            · have := hx.1; simp only [ctnx, Out.rt.injEq] at this; subst this; rfl
end DL
namespace DL
open PySem L2 PySem.Spec
def seqR (p : Out × En) (k : En → Option (Out × En)) : Option (Out × En) := match p.1 with
  | .nx => k p.2
  | o => some (o, p.2)
def retR (ptys : List Ty) (ds : List PyData) (p : Out × En) : Option (PyData × List PyData) := match p.1 with
  | .rt d => some (d, fins ptys ds p.2)
  | .nx => some (.none, fins ptys ds p.2)
  | _ => none
def two {α : Type} (xs : List PyData) (k : PyData → PyData → Option α) : Option α := match xs with
  | [x, y] => k x y
  | _ => none
def three {α : Type} (xs : List PyData) (k : PyData → PyData → PyData → Option α) : Option α := match xs with
  | [x, y, z] => k x y z
  | _ => none
def gLenL : PyData → Option PyData
  | .list xs => some (.int xs.length)
  | _ => none
section
variable {f g h : Ef} {a b : Ef} {e e' e1 e2 : En} {j : Nat} {d d1 d2 : PyData} {fb gb : Bf} {fr : Lf} {sf sg : Sf} {fq gq gi : Gq} {pt : Pf} {gf gf2 gf3 gf4 : Gf} {gs : Gsf} {o : Out} {α β : Type}
@[simp] theorem seqR_nx {k : En → Option (Out × En)} : seqR (.nx, e) k = k e := rfl
@[simp] theorem seqR_bk {k : En → Option (Out × En)} : seqR (.bk, e) k = some (.bk, e) := rfl
@[simp] theorem seqR_ct {k : En → Option (Out × En)} : seqR (.ct, e) k = some (.ct, e) := rfl
@[simp] theorem seqR_rt {k : En → Option (Out × En)} : seqR (.rt d, e) k = some (.rt d, e) := rfl
@[simp] theorem retR_nx {ptys : List Ty} {ds : List PyData} : retR ptys ds (.nx, e) = some (.none, fins ptys ds e) := rfl
@[simp] theorem retR_rt {ptys : List Ty} {ds : List PyData} : retR ptys ds (.rt d, e) = some (d, fins ptys ds e) := rfl
@[simp] theorem two_ok {x y : PyData} {k : PyData → PyData → Option α} : two [x, y] k = k x y := rfl
@[simp] theorem three_ok {x y z : PyData} {k : PyData → PyData → PyData → Option α} : three [x, y, z] k = k x y z := rfl
@[simp] theorem ctnx_nx : ctnx .nx = .nx := rfl
@[simp] theorem ctnx_ct : ctnx .ct = .nx := rfl
@[simp] theorem ctnx_bk : ctnx .bk = .bk := rfl
@[simp] theorem ctnx_rt : ctnx (.rt d) = .rt d := rfl
@[simp] theorem outE_rt {js jr : List Nat} : outE js jr (.rt d) e = fgE jr e := rfl
@[simp] theorem outE_nx {js jr : List Nat} : outE js jr .nx e = fgE js e := rfl
@[simp] theorem outE_bk {js jr : List Nat} : outE js jr .bk e = fgE js e := rfl
@[simp] theorem outE_ct {js jr : List Nat} : outE js jr .ct e = fgE js e := rfl
@[simp] theorem fgE_nil : fgE [] e = e := rfl
@[simp] theorem fgE_cons {js : List Nat} : fgE (j :: js) e = fgE js (e.set j .none) := rfl
theorem ite_bind' {c : Prop} [Decidable c] {x y : Option α} {k : α → Option β} : (if c then x else y).bind k = if c then x.bind k else y.bind k := by split <;> rfl
theorem ifB_bind {v : PyData} {x y : Option α} {k : α → Option β} : (ifB v x y).bind k = ifB v (x.bind k) (y.bind k) := by
  unfold ifB
  split <;> rfl
theorem thenS_bind {σ : Type} {p : Out × σ} {K : σ → Option α} {R : PyData → σ → Option α} {k : α → Option β} : (thenS p K R).bind k = thenS p (fun s => (K s).bind k) (fun d s => (R d s).bind k) := by
  unfold thenS
  split <;> rfl
@[simp] theorem thenS_nx {σ : Type} {s : σ} {K : σ → Option α} {R : PyData → σ → Option α} : thenS (.nx, s) K R = K s := rfl
@[simp] theorem thenS_rt {σ : Type} {s : σ} {K : σ → Option α} {R : PyData → σ → Option α} : thenS (.rt d, s) K R = R d s := rfl
@[simp] theorem rVar : eVar j e = some (e.getD j .none, e) := rfl
@[simp] theorem rC : eC d e = some (d, e) := rfl
@[simp] theorem r1 {gg : PyData → Option PyData} : DL.e1 gg a e = (a e).bind fun p => (gg p.1).bind fun r => some (r, p.2) := rfl
@[simp] theorem r2 {gg : PyData → PyData → Option PyData} : DL.e2 gg a b e = (a e).bind fun p => (b p.2).bind fun q => (gg p.1 q.1).bind fun r => some (r, q.2) := rfl
@[simp] theorem rTup : eTup fr e = (fr e).bind fun p => some (.tuple p.1, p.2) := rfl
@[simp] theorem rLst : eLst fr e = (fr e).bind fun p => some (.list p.1, p.2) := rfl
@[simp] theorem rlNil : lNil e = some ([], e) := rfl
@[simp] theorem rlCons : lCons f fr e = (f e).bind fun p => (fr p.2).bind fun q => some (p.1 :: q.1, q.2) := rfl
@[simp] theorem rLend : eLend e = some (.none, e) := rfl
@[simp] theorem rCall {Fn : DFn} : eCall Fn fr e = (fr e).bind fun p => (Fn p.1).bind fun q => some (q.1, p.2) := rfl
@[simp] theorem rCallL {Fn : DFn} {k : Nat} : eCallL Fn k j fr e = (fr e).bind fun p => (Fn (p.1.set k (p.2.getD j .none))).bind fun q => some (q.1, p.2.set j (q.2.getD k .none)) := rfl
@[simp] theorem rCallL2 {Fn : DFn} {k1 j1 k2 j2 : Nat} : eCallL2 Fn k1 j1 k2 j2 fr e = (fr e).bind fun p => (Fn ((p.1.set k1 (p.2.getD j1 .none)).set k2 (p.2.getD j2 .none))).bind fun q => some (q.1, (p.2.set j2 (q.2.getD k2 .none)).set j1 (q.2.getD k1 .none)) := rfl
@[simp] theorem rbOf : bOf f e = (f e).bind fun p => (gTruth p.1).bind fun b => some (b, p.2) := rfl
@[simp] theorem rbT : bT f e = (f e).bind fun p => (asB p.1).bind fun b => some (b, p.2) := by
  show ((f e).bind fun p => match p.1 with | .bool b => some (b, p.2) | _ => none : Option (Bool × En)) = _
  congr 1; funext p; cases p.1 <;> rfl
@[simp] theorem rbAnd : bAnd fb gb e = (fb e).bind fun p => if p.1 = true then gb p.2 else some (false, p.2) := rfl
@[simp] theorem rbOr : bOr fb gb e = (fb e).bind fun p => if p.1 = true then some (true, p.2) else gb p.2 := rfl
@[simp] theorem rbNot : bNot fb e = (fb e).bind fun p => some (!p.1, p.2) := rfl
@[simp] theorem reAnd : eAnd f g e = (f e).bind fun p => ifB p.1 (g p.2) (some (.bool false, p.2)) := by
  show ((f e).bind fun p => match p.1 with
    | .bool true => g p.2
    | .bool false => some (.bool false, p.2)
    | _ => none : Option (PyData × En)) = _
  congr 1
@[simp] theorem reOr : eOr f g e = (f e).bind fun p => ifB p.1 (some (.bool true, p.2)) (g p.2) := by
  show ((f e).bind fun p => match p.1 with
    | .bool true => some (.bool true, p.2)
    | .bool false => g p.2
    | _ => none : Option (PyData × En)) = _
  congr 1
@[simp] theorem reIf : eIf fb f g e = (fb e).bind fun p => if p.1 = true then f p.2 else g p.2 := rfl
@[simp] theorem rChain {g1 g2 : PyData → PyData → Option PyData} : eChain g1 g2 f g h e = (f e).bind fun p => (g p.2).bind fun q => (g1 p.1 q.1).bind fun r => ifB r ((h q.2).bind fun t => (g2 q.1 t.1).bind fun z => some (z, t.2)) (some (.bool false, q.2)) := by
  show ((f e).bind fun p => (g p.2).bind fun q => (g1 p.1 q.1).bind fun r => match r with
    | .bool true => (h q.2).bind fun t => (g2 q.1 t.1).bind fun z => some (z, t.2)
    | .bool false => some (.bool false, q.2)
    | _ => none : Option (PyData × En)) = _
  congr 1
@[simp] theorem rqVar : qVar j e = some (e.getD j .none) := rfl
@[simp] theorem rqC : qC d e = some d := rfl
@[simp] theorem rq1 {gg : PyData → Option PyData} : DL.q1 gg fq e = (fq e).bind gg := rfl
@[simp] theorem rq2 {gg : PyData → PyData → Option PyData} : DL.q2 gg fq gq e = (fq e).bind fun x => (gq e).bind fun y => gg x y := rfl
@[simp] theorem reQ : eQ fq e = (fq e).bind fun d => (grd (scD d)).bind fun _ => some (d, e) := by
  show ((fq e).bind fun d => if scD d = true then some (d, e) else none) = _
  congr 1; funext d; unfold grd; split <;> rfl
@[simp] theorem rbQ : bQ fq e = (fq e).bind fun d => (gTruth d).bind fun b => some (b, e) := by
  show ((fq e).bind fun d => (gTruth d).map fun b => (b, e)) = _
  congr 1; funext d; cases gTruth d <;> rfl
@[simp] theorem rbQT : bQT fq e = (fq e).bind fun d => (asB d).bind fun b => some (b, e) := by
  show ((fq e).bind fun d => match d with | .bool b => some (b, e) | _ => none : Option (Bool × En)) = _
  congr 1; funext d; cases d <;> rfl
@[simp] theorem rqS : qS fq e = (fq e).bind fun d => (grd (scD d)).bind fun _ => some d := by
  show ((fq e).bind fun d => if scD d = true then some d else none) = _
  congr 1; funext d; unfold grd; split <;> rfl
@[simp] theorem rpVar : pVar j e d = e.set j d := rfl
@[simp] theorem rSub1 : gSub1 gq gi e = (gq e).bind fun d => (gi e).bind fun i => itemD d i := rfl
@[simp] theorem rpSub1 : pSub1 gq gi pt e d = pt e (setD ((gq e).getD .none) ((gi e).getD .none) d) := rfl
@[simp] theorem rItm : eItm gq gi e = (gq e).bind fun d => (gi e).bind fun i => (itemD d i).bind fun x => some (x, e) := by
  show ((gq e).bind fun d => (gi e).bind fun i => (itemD d i).map fun x => (x, e)) = _
  congr 1; funext d; congr 1; funext i; cases itemD d i <;> rfl
@[simp] theorem rItmG : eItmG j f e = (f e).bind fun p => (itemD (p.2.getD j .none) p.1).bind fun x => some (x, p.2) := by
  show ((f e).bind fun p => (itemD (p.2.getD j .none) p.1).map fun x => (x, p.2)) = _
  congr 1; funext p; cases itemD (p.2.getD j .none) p.1 <;> rfl
@[simp] theorem rApp : eApp j f e = (f e).bind fun p => (gApp (e.getD j .none) p.1).bind fun l => some (.none, p.2.set j l) := by
  show ((f e).bind fun p => match e.getD j .none with
    | .list ds => if ds.length < sizeLine then some (.none, p.2.set j (.list (ds ++ [p.1]))) else none
    | _ => none : Option (PyData × En)) = _
  congr 1; funext p
  unfold gApp
  cases e.getD j .none with
  | list ds => show (if _ then _ else _) = (if _ then _ else _ : Option PyData).bind _; split <;> rfl
  | _ => rfl
@[simp] theorem rAppV : eAppV gq pt gi e = (gq e).bind fun d => (gi e).bind fun x => (gApp d x).bind fun l => some (.none, pt e l) := by
  show ((gq e).bind fun d => (gi e).bind fun x => match d with
    | .list ds => if ds.length < sizeLine then some (.none, pt e (.list (ds ++ [x]))) else none
    | _ => none : Option (PyData × En)) = _
  congr 1; funext d; congr 1; funext x
  unfold gApp
  cases d with
  | list ds => show (if _ then _ else _) = (if _ then _ else _ : Option PyData).bind _; split <;> rfl
  | _ => rfl
@[simp] theorem rPop : ePop gq pt e = (gq e).bind fun d => (gPop d).bind fun p => some (p.1, pt e p.2) := by
  show ((gq e).bind fun d => match d with
    | .list ds => (ds[ds.length - 1]?).map fun x => (x, pt e (.list ds.dropLast))
    | _ => none : Option (PyData × En)) = _
  congr 1; funext d
  unfold gPop
  cases d with
  | list ds => show (ds[ds.length - 1]?).map _ = ((ds[ds.length - 1]?).bind _).bind _; cases ds[ds.length - 1]? <;> rfl
  | _ => rfl
@[simp] theorem rPopAt : ePopAt gq pt gi e = (gq e).bind fun d => (gi e).bind fun i => (gPopAt d i).bind fun p => some (p.1, pt e p.2) := by
  show ((gq e).bind fun d => (gi e).bind fun i => match d, i with
    | .list ds, .int k => if -(2 ^ 63) ≤ k ∧ k < 2 ^ 63 then (ixN ds.length k).bind fun j => (ds[j]?).map fun x => (x, pt e (.list (ds.eraseIdx j))) else none
    | _, _ => none : Option (PyData × En)) = _
  congr 1; funext d; congr 1; funext i
  unfold gPopAt
  cases d <;> cases i <;> first | rfl | skip
  rename_i ds k
  show (if _ then _ else _) = (if _ then _ else _ : Option (PyData × PyData)).bind _
  split
  · cases ixN ds.length k with
    | none => rfl
    | some j => show (ds[j]?).map _ = ((ds[j]?).bind _).bind _; cases ds[j]? <;> rfl
  · rfl
@[simp] theorem reNotT : eNotT fb e = (fb e).bind fun p => some (.bool (!p.1), p.2) := rfl
@[simp] theorem rPopG : ePopG j f e = (f e).bind fun p => (gPopAt (p.2.getD j .none) p.1).bind fun q => some (q.1, p.2.set j q.2) := rfl
@[simp] theorem rExt : eExt j f e = (f e).bind fun p => (gExt (p.2.getD j .none) p.1).bind fun l => some (.none, p.2.set j l) := rfl
@[simp] theorem rsSet : sSet gq pt gi f e = (f e).bind fun p => (gq p.2).bind fun d => (gi p.2).bind fun i => (gSet d i p.1).bind fun l => some (.nx, pt p.2 l) := by
  show ((f e).bind fun p => (gq p.2).bind fun d => (gi p.2).bind fun i => match d, i with
    | .list ds, .int k => (ixN ds.length k).map fun j => (.nx, pt p.2 (.list (ds.set j p.1)))
    | _, _ => none : Option (Out × En)) = _
  congr 1; funext p; congr 1; funext d; congr 1; funext i
  unfold gSet
  cases d <;> cases i <;> first | rfl | skip
  rename_i ds k
  show (ixN ds.length k).map _ = ((ixN ds.length k).bind _).bind _
  cases ixN ds.length k <;> rfl
@[simp] theorem reSl {gg : PyData → Option Int → Option Int → Option PyData} {l u : Of} : eSl gg a l u e = (a e).bind fun p => (l p.2).bind fun q => (u q.2).bind fun r => (gg p.1 q.1 r.1).bind fun d => some (d, r.2) := rfl
@[simp] theorem roNone : oNone e = some (none, e) := rfl
@[simp] theorem roSome : oSome f e = (f e).bind fun p => (prt p.1).bind fun i => some (i, p.2) := rfl
@[simp] theorem reLenQ : eLenQ j e = (gLenL (e.getD j .none)).bind fun d => some (d, e) := by
  show (match e.getD j .none with | .list xs => some (.int xs.length, e) | _ => none : Option (PyData × En)) = _
  cases e.getD j .none <;> rfl
@[simp] theorem reSlQ {lo hi : Option Int} : eSlQ j lo hi e = (gSlL (e.getD j .none) lo hi).bind fun d => some (d, e) := by
  show (gSlL (e.getD j .none) lo hi).map (fun d => (d, e)) = _
  cases gSlL (e.getD j .none) lo hi <;> rfl
@[simp] theorem rsNil : sNil e = some (.nx, e) := rfl
@[simp] theorem rsSeq : sSeq sf sg e = (sf e).bind fun p => seqR p sg := by
  show ((sf e).bind fun p => match p.1 with
    | .nx => sg p.2
    | o => some (o, p.2) : Option (Out × En)) = _
  congr 1
@[simp] theorem rsIf : sIf fb sf sg e = (fb e).bind fun p => if p.1 = true then sf p.2 else sg p.2 := rfl
@[simp] theorem rsRet : sRet f e = (f e).bind fun p => some (.rt p.1, p.2) := by
  show (f e).map _ = _
  cases f e <;> rfl
@[simp] theorem rsRetN : sRetN e = some (.rt .none, e) := rfl
@[simp] theorem rsBrk : sBrk e = some (.bk, e) := rfl
@[simp] theorem rsCnt : sCnt e = some (.ct, e) := rfl
@[simp] theorem rsNever : sNever e = none := rfl
@[simp] theorem rsDrop : sDrop f e = (f e).bind fun p => some (.nx, p.2) := by
  show (f e).map _ = _
  cases f e <;> rfl
@[simp] theorem rsAsg : sAsg j f e = (f e).bind fun p => some (.nx, p.2.set j p.1) := by
  show (f e).map _ = _
  cases f e <;> rfl
@[simp] theorem rsAug {gg : PyData → PyData → Option PyData} : sAug j gg f e = (f e).bind fun p => (gg (p.2.getD j .none) p.1).bind fun d => some (.nx, p.2.set j d) := by
  show ((f e).bind fun p => (gg (p.2.getD j .none) p.1).map fun d => (.nx, p.2.set j d) : Option (Out × En)) = _
  congr 1; funext p; cases gg (p.2.getD j .none) p.1 <;> rfl
@[simp] theorem rsTg : sTg f gf e = (f e).bind fun p => (gf p.1 p.2).bind fun e' => some (.nx, e') := by
  show ((f e).bind fun p => (gf p.1 p.2).map fun e' => (.nx, e') : Option (Out × En)) = _
  congr 1; funext p; cases gf p.1 p.2 <;> rfl
@[simp] theorem rsPar {i : Nat} : sPar i j fr e = (fr e).bind fun p => two p.1 fun x y => some (.nx, (p.2.set i x).set j y) := rfl
@[simp] theorem rsPar3 {i l : Nat} : sPar3 i j l fr e = (fr e).bind fun p => three p.1 fun x y z => some (.nx, ((p.2.set i x).set j y).set l z) := rfl
@[simp] theorem rsFor {it : Lf} : sFor it gf sf e = (it e).bind fun p => forL gf sf p.1 p.2 := rfl
@[simp] theorem rsWh {n : Nat} : sWh n fb sf e = whL fb sf n e := rfl
@[simp] theorem riFg {js : List Nat} {lf : Lf} : iFg js lf e = (lf e).bind fun p => some (p.1, fgE js p.2) := rfl
@[simp] theorem rsPre {js : List Nat} : sPre js sf e = sf (fgE js e) := rfl
@[simp] theorem rsPost {js jr : List Nat} : sPost js jr sf e = (sf e).bind fun p => some (p.1, outE js jr p.1 p.2) := rfl
@[simp] theorem reLc {it : Lf} {vs : List Nat} : eLc it vs gf fb f e = (it e).bind fun p => (lcL vs gf fb f p.1 p.2).bind fun q => some (.list q.1, restE p.2 q.2 vs) := rfl
@[simp] theorem rbYes : bYes e = some (true, e) := rfl
@[simp] theorem rlcB {vs : List Nat} : lcB vs gf fb f d e = (gf d e).bind fun e1 => (fb e1).bind fun p => if p.1 = true then (f p.2).bind fun q => some (some q.1, restE e q.2 vs) else some (none, restE e p.2 vs) := rfl
@[simp] theorem riSeq : iSeq f e = (f e).bind fun p => (seqD p.1).bind fun ds => some (ds, p.2) := rfl
@[simp] theorem riEn : iEn f e = (f e).bind fun p => (gEn p.1).bind fun ds => some (ds, p.2) := by
  show ((f e).bind fun p => (seqD p.1).bind fun ds => some (enumD 0 ds, p.2)) = _
  congr 1; funext p; unfold gEn; cases seqD p.1 <;> rfl
@[simp] theorem riZp : iZp f g e = (f e).bind fun p => (g p.2).bind fun q => (zipS p.1 q.1).bind fun ds => some (ds, q.2) := rfl
@[simp] theorem riR1 : iR1 f e = (f e).bind fun p => (rng1 p.1).bind fun ds => some (ds, p.2) := rfl
@[simp] theorem riR2 : iR2 f g e = (f e).bind fun p => (g p.2).bind fun q => (rng2 p.1 q.1).bind fun ds => some (ds, q.2) := rfl
@[simp] theorem rLsR {lf : Lf} : eLsR lf e = (lf e).bind fun p => some (.list p.1, p.2) := by
  show (lf e).map _ = _
  cases lf e <;> rfl
@[simp] theorem rTpR {lf : Lf} : eTpR lf e = (lf e).bind fun p => some (.tuple p.1, p.2) := by
  show (lf e).map _ = _
  cases lf e <;> rfl
@[simp] theorem rgNm : gNm j d e = some (e.set j d) := rfl
@[simp] theorem rgTp2 : gTp 2 (gsCons gf (gsCons gf2 gsNil)) d e = (un2 d).bind fun p => (gf p.1 e).bind fun e => gf2 p.2 e := by
  unfold gTp un2
  cases d with
  | tuple ds =>
    match ds with
    | [] => rfl
    | [a] => rfl
    | [a, b] =>
      show ((gf a e).bind fun e' => (gf2 b e').bind fun e'' => some e'') = _
      simp only [Option.bind_some]
      congr 1; funext e'; cases gf2 b e' <;> rfl
    | a :: b :: c :: r => show (if (a :: b :: c :: r).length = 2 then _ else _) = _; rw [if_neg (by simp)]; rfl
  | _ => rfl
@[simp] theorem rgTp3 : gTp 3 (gsCons gf (gsCons gf2 (gsCons gf3 gsNil))) d e = (un3 d).bind fun p => (gf p.1 e).bind fun e => (gf2 p.2.1 e).bind fun e => gf3 p.2.2 e := by
  unfold gTp un3
  cases d with
  | tuple ds =>
    match ds with
    | [] => rfl
    | [a] => rfl
    | [a, b] => rfl
    | [a, b, c] =>
      show ((gf a e).bind fun e' => (gf2 b e').bind fun e'' => (gf3 c e'').bind fun e''' => some e''') = _
      simp only [Option.bind_some]
      congr 1; funext e'; congr 1; funext e''; cases gf3 c e'' <;> rfl
    | a :: b :: c :: x :: r => show (if (a :: b :: c :: x :: r).length = 3 then _ else _) = _; rw [if_neg (by simp)]; rfl
  | _ => rfl
@[simp] theorem rgTp4 : gTp 4 (gsCons gf (gsCons gf2 (gsCons gf3 (gsCons gf4 gsNil)))) d e = (un4 d).bind fun p => (gf p.1 e).bind fun e => (gf2 p.2.1 e).bind fun e => (gf3 p.2.2.1 e).bind fun e => gf4 p.2.2.2 e := by
  unfold gTp un4
  cases d with
  | tuple ds =>
    match ds with
    | [] => rfl
    | [a] => rfl
    | [a, b] => rfl
    | [a, b, c] => rfl
    | [a, b, c, z] =>
      show ((gf a e).bind fun e' => (gf2 b e').bind fun e'' => (gf3 c e'').bind fun e''' => (gf4 z e''').bind fun e4 => some e4) = _
      simp only [Option.bind_some]
      congr 1; funext e'; congr 1; funext e''; congr 1; funext e3; cases gf4 z e3 <;> rfl
    | a :: b :: c :: x :: y :: r => show (if (a :: b :: c :: x :: y :: r).length = 4 then _ else _) = _; rw [if_neg (by simp)]; rfl
  | _ => rfl
@[simp] theorem rrest0 : restE e e' [] = e' := rfl
@[simp] theorem rrest1 {v : Nat} {vs : List Nat} : restE e e' (v :: vs) = restE e (e'.set v (e.getD v .none)) vs := rfl
@[simp] theorem rgd0 {x : PyData} : List.getD (x :: e) 0 d = x := rfl
@[simp] theorem rgdS {x : PyData} : List.getD (x :: e) (j + 1) d = List.getD e j d := rfl
@[simp] theorem rRun {f : Sf} {ptys : List Ty} {r : Nat} {ds : List PyData} : runF f ptys r ds = (f (ds ++ List.replicate r .none)).bind fun p => retR ptys ds p := by
  show ((f (ds ++ List.replicate r .none)).bind fun p => match p.1 with
    | .rt d => some (d, fins ptys ds p.2)
    | .nx => some (.none, fins ptys ds p.2)
    | _ => none : Option (PyData × List PyData)) = _
  congr 1
@[simp] theorem rep0 {x : PyData} : List.replicate 0 x = [] := rfl
@[simp] theorem repS {x : PyData} {n : Nat} : List.replicate (n + 1) x = x :: List.replicate n x := rfl
@[simp] theorem finS {t : Ty} {ts : List Ty} {d e : PyData} {ds es : List PyData} : fins (t :: ts) (d :: ds) (e :: es) = (if stb t = true then d else e) :: fins ts ds es := rfl
@[simp] theorem finN {ds es : List PyData} : fins [] ds es = [] := rfl
@[simp] theorem stbs : stb .s = true := rfl
@[simp] theorem stbq : stb .q = true := rfl
@[simp] theorem stbl {t : Ty} : stb (.l t) = false := rfl
@[simp] theorem stbr {t : List Ty} : stb (.r t) = false := rfl
end
end DL
namespace DL
open PySem L2 PySem.Spec
section
variable {e : En} {f g h : Ef} {j : Nat}
@[simp] theorem reDGet : eDGet j f e = (f e).bind fun p => (gDGet (p.2.getD j .none) p.1).bind fun d => some (d, p.2) := rfl
@[simp] theorem reDOp {gg : PyData → PyData → Option PyData} : eDOp gg j f e = (f e).bind fun p => (gg (p.2.getD j .none) p.1).bind fun d => some (d, p.2) := rfl
@[simp] theorem reDGet2 : eDGet2 j f h e = (f e).bind fun p => (h p.2).bind fun q => (gDGet2 (q.2.getD j .none) p.1 q.1).bind fun d => some (d, q.2) := rfl
@[simp] theorem rsDPutD : sDPutD j g f e = (f e).bind fun p => (g p.2).bind fun q => (gDPut (q.2.getD j .none) q.1 p.1).bind fun d => some (.nx, q.2.set j d) := rfl
@[simp] theorem rgItm {gi : Gq} {d : PyData} : gItm j gi d e = (gi e).bind fun i => (gSet (e.getD j .none) i d).bind fun l => some (e.set j l) := by
  show ((gi e).bind fun i => match e.getD j .none, i with
    | .list ds, .int k => (ixN ds.length k).map fun z => e.set j (.list (ds.set z d))
    | _, _ => none) = _
  congr 1; funext i
  unfold gSet
  cases e.getD j .none <;> cases i <;> first | rfl | skip
  rename_i ds k
  show (ixN ds.length k).map _ = ((ixN ds.length k).bind _).bind _
  cases ixN ds.length k <;> rfl
end
end DL
namespace DL
open PySem L2 PySem.Spec
inductive Res where
  | ok (d : PyData)
  | ex (c : Str) (fs : List (Str × PyData))
abbrev DFnX := List PyData → Option Res
def ExAt (K : PySem.W.Frag) (mg : Str → Option Value) (G : Hp) (c : Str) (fs : List (Str × PyData)) (cls : Value) (dx : Option Addr) : Prop :=
  ∃ C fv, mg c = some (.ref C) ∧ cls = .ref C ∧ (∀ x, dx = some x → G x = some (.xd fv)) ∧ (dx = none → fs = []) ∧ fv.map (·.1) = fs.map (·.1) ∧ DqA K G (fv.map (·.2)) (fs.map (·.2))
theorem ExAt.mono {K : PySem.W.Frag} {mg : Str → Option Value} {G G' : Hp} {c : Str} {fs : List (Str × PyData)} {cls : Value} {dx : Option Addr} (e : Same G G') (h : ExAt K mg G c fs cls dx) : ExAt K mg G' c fs cls dx := by
  obtain ⟨C, fv, h1, h2, h3, h4, h5, h6⟩ := h
  exact ⟨C, fv, h1, h2, fun x hx => e _ _ (h3 x hx), h4, h5, h6.mono e⟩
def spX (K : PySem.W.Frag) (mg : Str → Option Value) (ptys : List Ty) (rty : Ty) (Fn : DFnX) : Sp := fun vs H Q E =>
  ∃ (ds : List PyData) (r : Res) (G : Hp), Fn ds = some r ∧ OwnA K G H ptys ds (vs.map some) [] ∧ Same G H ∧ match r with
    | .ok d => ∀ (G' H' : Hp) (v : V) (Av : List Addr), Step [] G H Av G' H' → Own K G' H' rty d (some v) Av → Av.Nodup → Same G' H' → Q v H'
    | .ex c fs => ∀ (G' H' : Hp) (cls : Value) (dx : Option Addr), Step [] G H [] G' H' → ExAt K mg G' c fs cls dx → Same G' H' → E cls dx H'
structure FnX (P : Program) (w : World) (K : PySem.W.Frag) (mg : Str → Option Value) (base : Heap) (k : Nat) (f : Addr) (fd : FuncData) (ps : List Str) (sp : Sp) : Prop where
  len : ∀ vs H Q E, sp vs H Q E → vs.length = ps.length
  run : ∀ (A : Around) (outer : List Env) (s : Shared) (H : Hp) (args : Args) (us : List Value) (vs : List V) (Q : VK) (E : XK), Room k A → A.guards = some [] → Env0 P w K mg base A outer s H → BindsTo s fd args (ps.zip us) → Vals vs us → sp vs H Q E →
    codeAny (model P w) A (.call (.ref f) args) (CR (L2N.CX P w) outer P w H s Q E) s
structure CalX (P : Program) (w : World) (K : PySem.W.Frag) (mg : Str → Option Value) (base : Heap) (k : Nat) (x : Str) (ptys : List Ty) (rty : Ty) (Fn : DFnX) : Prop where
  ex : ∃ (f : Addr) (fd : FuncData) (ps : List Str), FnX P w K mg base k f fd ps (spX K mg ptys rty Fn) ∧ mg x = some (.ref f) ∧ PySem.W.keepIn K (.ref f) = true ∧ Binds K fd ps []
theorem fnX_of {P : Program} {w : World} {K : PySem.W.Frag} {mg : Str → Option Value} {base : Heap} {x qual : Str} {st : Stmt} {f : Addr} {fd : FuncData} {N ps : List Str} {k : Nat} {sp : Sp} (F : L2.Fun K x qual st f fd) (S : FnScope N ps (defScope st)) (len : ∀ vs H Q E, sp vs H Q E → vs.length = ps.length)
    (hbody : ∀ (cv : Value) (A : Around) (outer : List Env) (s : Shared) (H : Hp) (vs : List V) (Q : VK) (E : XK), Room k (A.deeper (PyProof.Rows.envOfC qual (defScope st) s.heap.objs.size f cv)) → (A.deeper (PyProof.Rows.envOfC qual (defScope st) s.heap.objs.size f cv)).guards = some [] → sp vs H Q E →
      ∃ t, PSs (cxOf (L2N.CX P w) P w K mg base N qual (defScope st) f cv A outer s H E) (defBody st) t ∧ t { nx := fun _ H' => Q .non H', rt := Q } (start N vs) H) : FnX P w K mg base (k + 1) f fd ps sp := by
  obtain ⟨oc, od, kV, doc, pm, an, cv, ct, osl, rfl, lk, hcd⟩ := F.ex
  refine ⟨len, fun A outer s H args us vs Q E room gd e0 bind rel wish => ?_⟩
  have KX : K.In s.heap := e0.mod.kin.keeps fun b o e => (e0.bs b o e).1
  obtain ⟨t, bt, bq⟩ := hbody cv A outer s H vs Q E (room.deeper _) gd wish
  have kinds : ∀ y ∈ ps.zip us, (defScope st).names.lookup y.1 = some .local ∨ ((defScope st).names.lookup y.1 = some .cell ∧ ((cellsFrom (s.heap.objs.size + 1) (defScope st).names []).lookup y.1).isSome = true) := by
    rintro ⟨nm, val⟩ hy
    have hp := S.par nm (List.of_mem_zip hy).1
    exact hp.imp id fun c => ⟨c, PySem.W.cellsFrom_some _ _ _ (.inl c)⟩
  refine codeAny_call_function room.depth (KX _ _ lk) rfl S.co S.gen rfl (PySem.W.codeRec_of KX hcd) (bind _ _ _ _ ?_)
  refine wpAny_newFunctionEnv_cells S.kind kinds fun env he s1 ic => ?_
  subst he
  have lim := e0.mod.nolimit.keeps fun b o e => (e0.bs b o e).1
  refine ⟨Heap.NoLimit.keeps lim ic.toInCall.keep, codeAny_func ?_⟩
  have I0 := inv_start (CX := L2N.CX P w) (E := E) S room.hd e0 (len _ _ _ _ wish) rel ic
  refine wpAny_mono (bt.run [] s1 _ H _ I0 bq) ?_ fun e s' z => z
  intro fl s' z
  cases fl with
  | ret u => obtain ⟨v, σ', H', J, rv, q⟩ := z; exact ⟨v, H', J.os, J.bare, J.base, J.hok, rv, q⟩
  | next => obtain ⟨σ', H', J, q⟩ := z; exact ⟨V.non, H', J.os, J.bare, J.base, J.hok, rfl, q⟩
  | brk => obtain ⟨_, _, _, q⟩ := z; exact q.elim
  | cont => obtain ⟨_, _, _, q⟩ := z; exact q.elim
theorem run_fnX {X : Cx} {W : WX} {k : Nat} {fa : Addr} {fd : FuncData} {ps : List Str} {sp : Sp} {pins : List (Addr × Obj)} {σ : St} {H : Hp} {s : Shared} {Q : VK} {us : List Value} {vs : List V} (Fn : FnX X.prog X.w X.K X.mg X.base k fa fd ps sp) (tk : L2N.Takes X W) (hr : Room k X.A) (hg : X.A.guards = some []) (hb : Binds X.K fd ps [])
    (I : L2.Inv X pins σ H s) (r : Vals vs us) (h : sp vs H Q (WE W σ)) : wpAny (model X.prog X.w) X.A (call (.ref fa) us) (EP X pins σ Q) X.xe s := by
  have hl : (us ++ []).length = ps.length := by rw [List.append_nil, ← r.length]; exact Fn.len _ _ _ _ h
  have hb' := hb s us I.kIn hl
  rw [List.append_nil] at hb'
  refine wpAny_call (codeAny_mono (Fn.run X.A X.stack s H ⟨us, []⟩ us vs Q (WE W σ) hr hg I.env0 hb' r h) ?_)
  intro z s' hq
  match z, hq with
  | .ok (.ret u), hq => exact I.after hq
  | .error e, hq => exact L2N.passAt tk σ pins H s e s' I hq
  | .ok .next, hq => exact False.elim hq
  | .ok .brk, hq => exact False.elim hq
  | .ok .cont, hq => exact False.elim hq
abbrev EfX := En → Option (Res × En)
def DEX (K : PySem.W.Frag) (mg : Str → Option Value) (m : List Ty) (te : TE) (ty : Ty) (f : EfX) (m' : List Ty) (W : WX) : Prop :=
  ∀ {G H : Hp} {σ : St} {e : En} {A : List Addr} {r : Res} {e' : En} {Q : VK}, Stt K m G H σ e A → f e = some (r, e') →
    (match r with
    | .ok d => ∀ (G' H' : Hp) (v : V) (Av A' : List Addr), Step A G H (Av ++ A') G' H' → Stt K m' G' H' σ e' A' → Own K G' H' ty d (some v) Av → (Av ++ A').Nodup → Q v H'
    | .ex c fs => ∀ (G' H' : Hp) (A' : List Addr) (cls : Value) (dx : Option Addr), Step A G H A' G' H' → Stt K m' G' H' σ e' A' → ExAt K mg G' c fs cls dx → W cls dx σ H') → te σ H Q
structure PDX {ι : Type} (Xf : ι → Cx) (W : WX) (K : PySem.W.Frag) (mg : Str → Option Value) (m : List Ty) (e : Expr) (ty : Ty) (f : EfX) (m' : List Ty) : Prop where
  ex : ∃ te : TE, (∀ i, PE (Xf i) e te) ∧ DEX K mg m te ty f m' W
class FamT {ι : Type} (Xf : ι → Cx) (W : outParam WX) : Prop where
  tk : ∀ i, L2N.Takes (Xf i) W
def xCall (Fn : DFnX) (r : Lf) : EfX := fun e => (r e).bind fun p => (Fn p.1).bind fun q => some (q, p.2)
def xLst2 (f : Ef) (g : EfX) : EfX := fun e => (f e).bind fun p => (g p.2).bind fun q => match q.1 with
  | .ok d => some (.ok (.list [p.1, d]), q.2)
  | .ex c fs => some (.ex c fs, q.2)
section
variable {ι : Type} {Xf : ι → Cx} {W : WX} {P : Program} {w : World} {K : PySem.W.Frag} {mg : Str → Option Value} {base : Heap} {n : Nat} [F : Fam Xf P w K mg base n] [FG : FamG Xf]
variable {m m1 m2 m3 : List Ty} {pos p p2 : Pos} {a b c : Expr} {es : List Expr} {f g h : Ef} {gx : EfX} {fr : Lf} {ty : Ty} {tys : List Ty} {L : List (Option Nat)}
include F FG in
theorem pe_callX [FT : FamT Xf W] {k : Nat} {x : Str} {rty : Ty} {Fn : DFnX} (c : CalX P w K mg base k x tys rty Fn) (hk : k ≤ n) (i : ι) {t : TA} (hg : Gl (Xf i) x) (ha : PA (Xf i) (a :: es) t)
    (hdb : (x == ("__debug__" : Str)) = false := by decide) (he : starEach (a :: es) (Xf i).env = (false, eval a (Xf i).env) :: starEach es (Xf i).env := by rfl) (hpl : (backTo pos (starEach es (Xf i).env)).any (·.1) = false := by rfl) :
    PE (Xf i) (.Call (.Name x p) (a :: es) [] pos) (tCallS (spX K mg tys rty Fn) (WE W) t) := by
  obtain ⟨fa, fd, ps, FN, hm, kp, b⟩ := c.ex
  have e1 := F.prog i
  have e2 := F.w_ i
  have e3 := F.kk i
  have e4 := F.mg_ i
  have e5 := F.base_ i
  refine ⟨fun pins s σ H Q I h => ?_⟩
  refine wpAny_Call_Name_kw (ld_glob I hg (by rw [e4]; exact hm) ?_ hdb)
  refine PySem.W.callWith_K (h₀ := (Xf i).base) I.ok.mod.kin (by rw [e3]; exact kp) (thn (ha.run pos pins s σ H _ I h) fun us s1 ⟨vs, H1, I1, r1, q1⟩ => ⟨I1.kIn, ?_⟩) he hpl
  subst e1 e2 e3 e4 e5
  exact run_fnX FN (FT.tk i) ((rmOf F FG i).mono hk) (FG.gd i) b I1 r1 q1
theorem stab_nil {K : PySem.W.Frag} {G H : Hp} : ∀ {ts : List Ty} {ds : List PyData} {vs : List (Option V)} {A : List Addr}, OwnA K G H ts ds vs A → (∀ t ∈ ts, stb t = true) → A = []
  | [], _, _, _, o, _ => by cases o; rfl
  | t :: ts, _, _, _, o, h => by
    cases o with
    | cons h1 h2 => rw [own_stb h1 (h t (List.mem_cons_self ..)), stab_nil h2 fun x hx => h x (List.mem_cons_of_mem _ hx)]; rfl
include F FG in
theorem px_call [FT : FamT Xf W] {k : Nat} {x : Str} {rty : Ty} {Fn : DFnX} (c : CalX P w K mg base k x tys rty Fn) (ha : PAL Xf K m (a :: es) tys L fr m1) (hst : ∀ t ∈ tys, stb t = true := by decide) (hk : k ≤ n := by decide) (hg : ∀ i, Gl (Xf i) x := by intro _; rfl)
    (hdb : (x == ("__debug__" : Str)) = false := by decide) (he : ∀ i, starEach (a :: es) (Xf i).env = (false, eval a (Xf i).env) :: starEach es (Xf i).env := by intro _; rfl) (hpl : ∀ i, (backTo pos (starEach es (Xf i).env)).any (·.1) = false := by intro _; rfl) :
    PDX Xf W K mg m (.Call (.Name x p) (a :: es) [] pos) rty (xCall Fn fr) m1 := by
  obtain ⟨ta, pa, da⟩ := ha.ex
  refine ⟨_, fun i => pe_callX c hk i (hg i) (pa i) hdb (he i) (hpl i), fun {G H σ e A r e' Q} st hf k' => ?_⟩
  unfold xCall at hf
  obtain ⟨⟨ds, e1⟩, hf1, hf⟩ := oBs hf
  obtain ⟨r1, hf2, hf⟩ := oBs hf
  cases hf
  refine da st hf1 fun G1 H1 vs A1 B1 s1 st1 o1 nd1 _ => ?_
  have z1 := stab_nil o1 hst
  subst z1
  rw [List.nil_append] at s1 nd1
  refine ⟨ds, r, G1, hf2, o1, st1.sub, ?_⟩
  have s1' : Step A G H (B1 ++ []) G1 H1 := by rw [List.append_nil]; exact s1
  have nd1' : (B1 ++ []).Nodup := by rw [List.append_nil]; exact nd1
  cases r with
  | ok d =>
    intro G2 H2 v Av s2 ov ndv sub2
    obtain ⟨s3, nd3, hg', hh'⟩ := s1'.seq (ownA_at st1.own) nd1' s2 ndv
    have st2 : Stt K m1 G2 H2 σ e1 B1 := ⟨ownA_fr st1.own s2.sg hg' hh', st1.nd, sub2⟩
    have n3 := List.nodup_append.mp nd3
    refine k' G2 H2 v Av B1 (s3.less fun a ha => ?_) st2 ov (List.nodup_append.mpr ⟨n3.2.1, n3.1, fun a ha b hb z => n3.2.2 b hb a ha z.symm⟩)
    rcases List.mem_append.mp ha with z | z
    · exact List.mem_append_right _ z
    · exact List.mem_append_left _ z
  | ex c fs =>
    intro G2 H2 cls dx s2 ex sub2
    obtain ⟨s3, nd3, hg', hh'⟩ := s1'.seq (ownA_at st1.own) nd1' s2 List.nodup_nil
    have st2 : Stt K m1 G2 H2 σ e1 B1 := ⟨ownA_fr st1.own s2.sg hg' hh', st1.nd, sub2⟩
    exact k' G2 H2 B1 cls dx (s3.less fun a ha => List.mem_append_left _ ha) st2 ex
theorem px_lst2 (ha : PD Xf K m a .s f m1) (hb : PDX Xf W K mg m1 b .s gx m2) (hs : ∀ i, starEach [a, b] (Xf i).env = (false, eval a (Xf i).env) :: starEach [b] (Xf i).env := by intro _; rfl) (hs2 : ∀ i, starEach [b] (Xf i).env = (false, eval b (Xf i).env) :: starEach [] (Xf i).env := by intro _; rfl) :
    PDX Xf W K mg m (.List [a, b] pos) (.l .s) (xLst2 f gx) m2 := by
  obtain ⟨ta, pa, da⟩ := ha.ex
  obtain ⟨tb, pb, db⟩ := hb.ex
  refine ⟨tLst (tCons ta (tCons tb tNil)), fun i => pe_lst (pa_cons (pa i) (pa_cons (pb i) pa_nil (hs2 i)) (hs i)), fun {G H σ e A r e' Q} st hf k => ?_⟩
  unfold xLst2 at hf
  obtain ⟨⟨d1, e1⟩, hf1, hf⟩ := oBs hf
  obtain ⟨⟨r2, e2⟩, hf2, hf⟩ := oBs hf
  refine da st hf1 fun G1 H1 v1 A1 B1 s1 st1 o1 nd1 => ?_
  cases o1 with
  | s q1 =>
    refine db st1 hf2 ?_
    cases r2 with
    | ok d2 =>
      cases hf
      intro G2 H2 v2 A2 B2 s2 st2 o2 nd2
      cases o2 with
      | s q2 =>
        refine ⟨(by show 2 ≤ sizeLine; rw [sizeLine_eq]; decide), ?_⟩
        refine ans_lst (ds := [d1, d2]) st2 (DqA.cons (q1.mono s2.sg) (DqA.cons q2 DqA.nil)) (by show 2 ≤ sizeLine; rw [sizeLine_eq]; decide) fun G3 H3 v3 A3 B3 s3 st3 o3 nd3 => ?_
        exact k G3 H3 v3 A3 B3 ((s1.seq0 s2).seq0 s3) st3 o3 nd3
    | ex c fs =>
      cases hf
      intro G2 H2 A2 cls dx s2 st2 ex
      exact k G2 H2 A2 cls dx (s1.seq0 s2) st2 ex
end
inductive OutX where
  | o (x : Out)
  | ex (c : Str) (fs : List (Str × PyData))
abbrev SfX := En → Option (OutX × En)
def FinX (K : PySem.W.Frag) (mg : Str → Option Value) (M : Mk) (mx : List Ty) (W : WX) (mn : List Ty) (A : List Addr) (G H : Hp) (σ : St) (D : Ends) (e' : En) : OutX → Prop
  | .o x => Fin K M mn A G H σ D e' x
  | .ex c fs => ∀ (G' H' : Hp) (σ' : St) (A' : List Addr) (cls : Value) (dx : Option Addr), Step A G H A' G' H' → Stt K mx G' H' σ' e' A' → Pin M.po σ σ' → ExAt K mg G' c fs cls dx → W cls dx σ' H'
def DSX (K : PySem.W.Frag) (mg : Str → Option Value) (M : Mk) (mx : List Ty) (W : WX) (m : List Ty) (t : TS) (f : SfX) (mn : List Ty) : Prop :=
  ∀ {G H : Hp} {σ : St} {e : En} {A : List Addr} {o : OutX} {e' : En} {D : Ends}, Stt K m G H σ e A → f e = some (o, e') → FinX K mg M mx W mn A G H σ D e' o → t D σ H
structure PSX {ι : Type} (Xf : ι → Cx) (W : WX) (K : PySem.W.Frag) (mg : Str → Option Value) (M : Mk) (mx : List Ty) (m : List Ty) (st : Stmt) (f : SfX) (mn : List Ty) : Prop where
  ex : ∃ t : TS, (∀ i, PS (Xf i) st t) ∧ DSX K mg M mx W m t f mn
structure PSXs {ι : Type} (Xf : ι → Cx) (W : WX) (K : PySem.W.Frag) (mg : Str → Option Value) (M : Mk) (mx : List Ty) (m : List Ty) (st : List Stmt) (f : SfX) (mn : List Ty) : Prop where
  ex : ∃ t : TS, (∀ i, PSs (Xf i) st t) ∧ DSX K mg M mx W m t f mn
def xO (f : Sf) : SfX := fun e => (f e).map fun p => (.o p.1, p.2)
def xSeqX (f g : SfX) : SfX := fun e => (f e).bind fun p => match p.1 with
  | .o .nx => g p.2
  | o => some (o, p.2)
def xIfX (c : Bf) (f g : SfX) : SfX := fun e => (c e).bind fun p => if p.1 = true then f p.2 else g p.2
def xAsgX (j : Nat) (f : EfX) : SfX := fun e => (f e).map fun p => match p.1 with
  | .ok d => (.o .nx, p.2.set j d)
  | .ex c fs => (.ex c fs, p.2)
def xDropX (f : EfX) : SfX := fun e => (f e).map fun p => match p.1 with
  | .ok _ => (.o .nx, p.2)
  | .ex c fs => (.ex c fs, p.2)
def xRetX (f : EfX) : SfX := fun e => (f e).map fun p => match p.1 with
  | .ok d => (.o (.rt d), p.2)
  | .ex c fs => (.ex c fs, p.2)
def xRaise (c : Str) (flds : List Str) (f : Lf) : SfX := fun e => (f e).bind fun p => if p.1.length = flds.length then some (.ex c (flds.zip p.1).reverse, p.2) else none
section
variable {K : PySem.W.Frag} {mg : Str → Option Value} {M : Mk} {G H G1 H1 : Hp} {m m1 m2 mn mx : List Ty} {W : WX} {σ σ1 : St} {e : En} {A A1 : List Addr} {D : Ends} {e' : En} {t u : TS} {ef : Ef} {bf : Bf} {lf : Lf}
theorem FinX.back {o : OutX} (s : Step A G H A1 G1 H1) (p : Pin M.po σ σ1) (h : FinX K mg M mx W mn A G H σ D e' o) : FinX K mg M mx W mn A1 G1 H1 σ1 D e' o := by
  cases o with
  | o x => exact Fin.back s p h
  | ex c fs => exact fun G' H' σ' A' cls dx s' st' p' ex => h G' H' σ' A' cls dx (s.seq0 s') st' (p.trans p') ex
theorem DSX.of {f : Sf} (h : DS K M m t f mn) : DSX K mg M mx W m t (xO f) mn := by
  intro G H σ e A o e' D st hf k
  obtain ⟨⟨x, e1⟩, hf1, hf⟩ := Option.map_eq_some_iff.mp hf
  cases hf
  exact h st hf1 k
theorem DSX.seq {f g : SfX} (h1 : DSX K mg M mx W m t f m1) (h2 : DSX K mg M mx W m1 u g mn) : DSX K mg M mx W m (tSeq t u) (xSeqX f g) mn := by
  intro G H σ e A o e' D st hf k
  obtain ⟨⟨o1, e1⟩, hf1, hf⟩ := oBs hf
  refine h1 st hf1 ?_
  match o1, hf with
  | .o .nx, hf => exact fun G' H' σ' A' s' st' p' => h2 st' hf (k.back s' p')
  | .o .bk, hf => cases hf; exact k
  | .o .ct, hf => cases hf; exact k
  | .o (.rt d), hf => cases hf; exact k
  | .ex c fs, hf => cases hf; exact k
theorem DSX.ite {f g : SfX} {tc : TT} (hc : DT K m tc bf m1) (h1 : DSX K mg M mx W m1 t f mn) (h2 : DSX K mg M mx W m1 u g mn) : DSX K mg M mx W m (tIfS tc t u) (xIfX bf f g) mn := by
  intro G H σ e A o e' D st hf k
  obtain ⟨⟨b, e1⟩, hf1, hf⟩ := oBs hf
  refine hc st hf1 fun G1 H1 A1 s1 st1 => ?_
  cases b with
  | true => exact h1 st1 hf (k.back s1 Pin.refl)
  | false => exact h2 st1 hf (k.back s1 Pin.refl)
theorem DSX.le {f : SfX} (h : DSX K mg M mx W m t f m1) (l : LeM m1 mn) : DSX K mg M mx W m t f mn := by
  intro G H σ e A o e' D st hf k
  refine h st hf ?_
  match o, k with
  | .o .nx, k =>
    intro G' H' σ' A' s' st' p'
    obtain ⟨G2, A2, s2, st2⟩ := stt_le l st'
    exact k G2 H' σ' A2 (s'.seq0 s2) st2 p'
  | .o .bk, k => exact k
  | .o .ct, k => exact k
  | .o (.rt d), k => exact k
  | .ex c fs, k => exact k
theorem DSX.asg {te : TE} {ty : Ty} {j : Nat} {fx : EfX} (he : DEX K mg m te ty fx m1 W) (hj : j < m1.length) (hp : j ∉ M.po) : DSX K mg M m1 W m (tAsg te (gName j)) (xAsgX j fx) (m1.set j ty) := by
  intro G H σ e A o e' D st hf k
  obtain ⟨⟨r, e1⟩, hf1, hf⟩ := Option.map_eq_some_iff.mp hf
  refine he st hf1 ?_
  match r, hf with
  | .ok d, hf =>
    cases hf
    exact fun G1 H1 v Av A1 s1 st1 o1 nd1 => by
      obtain ⟨A2, st2, hA⟩ := stt_set st1 hj o1 nd1
      exact k G1 H1 _ A2 (s1.less hA) st2 (Pin.set hp)
  | .ex c fs, hf =>
    cases hf
    exact fun G1 H1 A1 cls dx s1 st1 ex => k G1 H1 σ A1 cls dx s1 st1 Pin.refl ex
theorem DSX.drop {te : TE} {ty : Ty} {fx : EfX} (he : DEX K mg m te ty fx m1 W) : DSX K mg M m1 W m (tDrop te) (xDropX fx) m1 := by
  intro G H σ e A o e' D st hf k
  obtain ⟨⟨r, e1⟩, hf1, hf⟩ := Option.map_eq_some_iff.mp hf
  refine he st hf1 ?_
  match r, hf with
  | .ok d, hf =>
    cases hf
    exact fun G1 H1 v Av A1 s1 st1 o1 nd1 => k G1 H1 σ A1 (s1.less fun a h => List.mem_append_right _ h) st1 Pin.refl
  | .ex c fs, hf =>
    cases hf
    exact fun G1 H1 A1 cls dx s1 st1 ex => k G1 H1 σ A1 cls dx s1 st1 Pin.refl ex
theorem DSX.ret {te : TE} {fx : EfX} (he : DEX K mg m te M.ty fx m1 W) (l : LeM m1 M.r) (lx : LeM m1 mx) : DSX K mg M mx W m (tRet te) (xRetX fx) mn := by
  intro G H σ e A o e' D st hf k
  obtain ⟨⟨r, e1⟩, hf1, hf⟩ := Option.map_eq_some_iff.mp hf
  refine he st hf1 ?_
  match r, hf with
  | .ok d, hf =>
    cases hf
    exact fun G1 H1 v Av A1 s1 st1 o1 nd1 => by
      obtain ⟨G2, A2, s2, st2, o2, nd2⟩ := le_aside l s1 st1 o1 nd1
      exact k G2 H1 σ v Av A2 s2 st2 o2 nd2 Pin.refl
  | .ex c fs, hf =>
    cases hf
    exact fun G1 H1 A1 cls dx s1 st1 ex => by
      obtain ⟨G2, A2, s2, st2⟩ := stt_le lx st1
      exact k G2 H1 σ A2 cls dx (s1.seq0 s2) st2 Pin.refl (ex.mono s2.sg)
end
section
variable {ι : Type} {Xf : ι → Cx} {W : WX} {P : Program} {w : World} {K : PySem.W.Frag} {mg : Str → Option Value} {base : Heap} {n : Nat} [F : Fam Xf P w K mg base n]
variable {M : Mk} {m m1 m2 mn mx : List Ty} {pos p p2 spos : Pos} {c v : Expr} {st : Stmt} {rest body orelse : List Stmt} {f g : SfX} {sf : Sf} {bf : Bf} {ef : Ef} {fx : EfX} {ty : Ty}
theorem sxs_of (h : PSsd Xf K M m rest sf mn) : PSXs Xf W K mg M mx m rest (xO sf) mn := by
  obtain ⟨t, p, d⟩ := h.ex
  exact ⟨t, p, DSX.of d⟩
theorem sx_of (h : PSd Xf K M m st sf mn) : PSX Xf W K mg M mx m st (xO sf) mn := by
  obtain ⟨t, p, d⟩ := h.ex
  exact ⟨t, p, DSX.of d⟩
theorem sxs_cons (h1 : PSX Xf W K mg M mx m st f m1) (h2 : PSXs Xf W K mg M mx m1 rest g mn) : PSXs Xf W K mg M mx m (st :: rest) (xSeqX f g) mn := by
  obtain ⟨t, p, d⟩ := h1.ex
  obtain ⟨u, q, d2⟩ := h2.ex
  exact ⟨_, fun i => pss_cons (p i) (q i), DSX.seq d d2⟩
theorem sxs_one (h1 : PSX Xf W K mg M mx m st f mn) : PSXs Xf W K mg M mx m [st] f mn := by
  obtain ⟨t, p, d⟩ := h1.ex
  exact ⟨_, fun i => pss_one (p i), d⟩
theorem sxs_le (h : PSXs Xf W K mg M mx m rest f m1) (l : LeM m1 mn) : PSXs Xf W K mg M mx m rest f mn := by
  obtain ⟨t, p, d⟩ := h.ex
  exact ⟨_, p, d.le l⟩
theorem sx_if (hc : PB Xf K m c bf m1) (ha : PSXs Xf W K mg M mx m1 body f mn) (hb : PSXs Xf W K mg M mx m1 orelse g mn) : PSX Xf W K mg M mx m (.If c body orelse pos) (xIfX bf f g) mn := by
  obtain ⟨t, p, d⟩ := hc.ex
  obtain ⟨t1, p1, d1⟩ := ha.ex
  obtain ⟨t2, p2, d2⟩ := hb.ex
  exact ⟨_, fun i => ps_if (p i) (p1 i) (p2 i), DSX.ite d d1 d2⟩
include F in
theorem sx_asg (j : Nat) {x : Str} {pos' : Pos} (he : PDX Xf W K mg m v ty fx m1) (hj : j < m1.length := by first | decide | rfl | simp) (hp : j ∉ M.po := by first | decide | rfl | simp) (hi : ∀ i, (Xf i).N[j]? = some x := by intro _; rfl) (hx : ∀ i, Loc (Xf i).env.scope x := by first | (intro _; exact Or.inl rfl) | (intro _; exact Or.inr rfl))
    (hs : ∀ i, swapsWith v (some (.Name x pos')) pos.line (Xf i).env = pure false := by intro _; rfl) (hf : ∀ i, (Xf i).fn x = true ∨ (Xf i).env.scope.names.lookup x = some .local := by first | (intro _; exact Or.inl rfl) | (intro _; exact Or.inr rfl)) :
    PSX Xf W K mg M m1 m (.Assign [.Name x pos'] v pos) (xAsgX j fx) (m1.set j ty) := by
  obtain ⟨t, p, d⟩ := he.ex
  exact ⟨_, fun i => ps_set (F.nd i) (hi i) (hx i) (p i) (hs i) (hf i), DSX.asg d hj hp⟩
end
abbrev newAt (h : Heap) : Addr := h.objs.size + 1
abbrev grownBy (h : Heap) (us : List Value) (C : Addr) : Heap := (h.push (PySem.W.kdv_tup us)).push (PySem.HandSPX.excO C h.objs.size)
theorem takes0N {X : Cx} : L2N.Takes X (fun _ _ _ _ => False) := fun _ _ z => by
  obtain ⟨_, _, _, _, _, _, _, _, _, _, _, _, _, _, _, _, q⟩ := z
  exact q.elim
section
variable {X : Cx} {o e : Expr} {es : List Expr} {to te : TE} {ta : TA} {f : Str} {p p' pos : Pos}
theorem mk_endN {pins : List (Addr × Obj)} {σ : St} {H1 H2 : Hp} {Q : XK} {hp hp2 h2 : Heap} {g1 g2 : Array GenState} {d1 d2 : Drawn} {t1 t2 : Nat} {o1 o2 : OsState} {a C d : Addr} {fl : List (Str × V)} (T : Raises X (.ref C)) (I1 : L2.Inv X pins σ H1 ⟨hp, g1, d1, t1, o1⟩)
    (ha : hp.objs.size ≤ a) (kp : ∀ b u, hp.get? b = some u → hp2.get? b = some u) (un : Un (frs X.stack) [] (upd H1 a (exo a C none)) H2 hp2 h2) (hok : HOk X.prog X.w H2 h2) (ho : o2 = o1) (hb : PyProof.Rows.AllBare g2)
    (ea : H2 a = some (exo a C (some d))) (ed : H2 d = some (exd d fl)) (dn : H1 d = none) (q : Q (.ref C) (some d) (upd (del H2 a) d (.xd fl))) : L2N.MkP X pins σ Q (.ref a) ⟨h2, g2, d2, t2, o2⟩ := by
  obtain ⟨t0, G1, J, kG, ge, hoe, na⟩ := mk_end0 (d2 := d2) (t2 := t2) I1 ha kp un hok ho hb ea ed dn
  refine ⟨a, _, _, ⟨G1, g2, d2, t2, o2⟩, _, .ref C, some d, rfl, J, kG, ge, hoe, ⟨rfl, rfl, fun vs hv => ?_⟩, rfl, rfl, na, rfl, hb, T, q⟩
  cases hv
  rfl
variable {pins : List (Addr × Obj)} {σ : St} {H : Hp} {s : Shared}
theorem pmk_oexN {CX : CXT} {x : Str} {C fI : Addr} {k : Nat} {fd : FuncData} {ps : List Str} {sp : Sp} (T : OexC X.K C) (iC : PySem.W.findIn X.K (.ref C) "__init__" = some (some (.ref fI))) (tI : PySem.W.typeIn X.K (.ref fI) = some (.type "function"))
    (FI : FnOk X.prog X.w X.K X.mg X.base CX k fI fd ps sp) (room : Room (k + 1) X.A) (bd : Binds X.K fd ps []) (nx : Passes CX X (fun _ _ _ => False)) (hg : Gl X x) (hm : X.mg x = some (.ref C)) (ha : PA X (e :: es) ta)
    (hdb : (x == ("__debug__" : Str)) = false := by decide) (he : starEach (e :: es) X.env = (false, eval e X.env) :: starEach es X.env := by rfl) (hpl : (backTo pos (starEach es X.env)).any (·.1) = false := by rfl) :
    L2N.PMk X (.Call (.Name x p) (e :: es) [] pos) (tMkO C sp [] ta) := by
  intro pins s σ H Q I h
  obtain ⟨nm, q, N, bs, bm, sn, sub, ab, col, dd, k0, k1, k2, k3, k5, hC, hbm⟩ := T.cls
  refine wpAny_Call_Name_kw (ld_glob I hg hm ?_ hdb)
  refine PySem.W.callWith_K (h₀ := X.base) I.ok.mod.kin T.kC (thn (ha.run pos pins s σ H _ I h) fun us s1 hu => ?_) he hpl
  obtain ⟨vs, H1, I1, r1, hz, wish⟩ := hu
  refine ⟨I1.kIn, ?_⟩
  show wpAny _ _ (call (.ref C) us) _ _ _
  obtain ⟨hh, gg, dr, tk, oo⟩ := s1
  have up1 : hh.objs.size ≤ newAt hh := Nat.le_succ _
  have w2 := wish (newAt hh) (I1.hok.fresh up1)
  have keep : ∀ b o, hh.get? b = some o → (grownBy hh us C).get? b = some o := fun b o z => Heap.get?_push_of_some _ (Heap.get?_push_of_some _ z)
  have at2 : (grownBy hh us C).get? (newAt hh) = some (PySem.HandSPX.excO C hh.objs.size) := by
    show ((hh.push (PySem.W.kdv_tup us)).push (PySem.HandSPX.excO C hh.objs.size)).get? (hh.objs.size + 1) = _
    heap_get
  have I2 : L2.Inv X pins σ (upd H1 (newAt hh) (exo (newAt hh) C none)) ⟨grownBy hh us C, gg, dr, tk, oo⟩ := I1.laid (t' := tk) keep up1 (exo_ok at2)
  have r2 : Vals (V.ref (newAt hh) :: (vs ++ [])) (Value.ref (newAt hh) :: (us ++ [])) := .cons rfl (r1.append .nil)
  have len2 : (Value.ref (newAt hh) :: us ++ []).length = ps.length := r2.length.symm.trans (FI.len _ _ _ _ w2)
  have small : us.length ≤ sizeLine := by rw [← Paired.length r1, sizeLine_eq]; omega
  refine wpAny_call (PySem.HandSPX.call_own PySem.F.excBase_ValueError (fun Y => PySem.HandSPX.refsVE_contains Y bm hbm) (I1.kIn _ _ hC) (PySem.W.looks_findIn I1.kIn iC) (fun self => PySem.W.bind_fn I1.kIn self tI) small ?_)
  refine codeAny_mono (FI.run _ X.stack _ _ ⟨Value.ref (newAt hh) :: us, []⟩ (Value.ref (newAt hh) :: (us ++ [])) _ _ (fun _ _ _ => False) (room.make C us []) (I2.env0.make C us []) (by have b2 := bd ⟨grownBy hh us C, gg, dr, tk, oo⟩ (Value.ref (newAt hh) :: us) I2.kIn len2; rw [List.cons_append] at b2; exact b2) r2 w2) fun r s' z => ?_
  match r, z with
  | .error er, z => exact nx pins σ _ _ er s' I2 z
  | .ok .next, z => exact z.elim
  | .ok .brk, z => exact z.elim
  | .ok .cont, z => exact z.elim
  | .ok (.ret u), z =>
    obtain ⟨v, H2, o2, bare, un, hok, rv, ev, d, fs, ea, ed, hd1, q2⟩ := z
    subst ev
    obtain ⟨h2, g2, d2, t2, os'⟩ := s'
    exact ⟨rv, mk_endN (raises_own T.exC T.tyC) I1 up1 keep un hok o2 bare ea ed hd1 q2⟩
end
def spIn (C : Addr) (flds : List Str) : Sp := fun vs H Q _ => ∃ (a : Addr) (ys : List V), vs = .ref a :: ys ∧ ys.length = flds.length ∧ H a = some (exo a C none) ∧
  ∀ (dx : Addr) (H' : Hp), H dx = none → dx ≠ a → H' a = some (exo a C (some dx)) → H' dx = some (exd dx (flds.zip ys).reverse) → (∀ b, b ≠ a → b ≠ dx → H' b = H b) → Q .non H'
structure ExcT (P : Program) (w : World) (K : PySem.W.Frag) (mg : Str → Option Value) (base : Heap) (k : Nat) (x : Str) (flds : List Str) : Prop where
  ex : ∃ (C fI : Addr) (fd : FuncData) (ps : List Str), OexC K C ∧ mg x = some (.ref C) ∧ PySem.W.findIn K (.ref C) "__init__" = some (some (.ref fI)) ∧ PySem.W.typeIn K (.ref fI) = some (.type "function") ∧ FnOk P w K mg base CX0 k fI fd ps (spIn C flds) ∧ Binds K fd ps []
theorem init1 {P : Program} {w : World} {K : PySem.W.Frag} {mg : Str → Option Value} {base : Heap} {C fI : Addr} {fd : FuncData} {qual f y : Str} {st : Stmt} {p1 p2 p3 p4 : Pos} (F : L2.Fun K "__init__" qual st fI fd) (S : FnScope ["self", y] ["self", y] (defScope st)) (hb : defBody st = [.Assign [.Attribute (.Name "self" p1) f p2] (.Name y p3) p4])
    (T : OexC K C) (hno : PySem.W.findIn K (.ref C) f = some none)
    (hv1 : Vis (defScope st) "self") (hv2 : Vis (defScope st) y) (hdy : (y == ("__debug__" : Str)) = false := by decide) (hcy : (y == ("__classdict__" : Str)) = false := by decide)
    (hs : ∀ env, swapsWith (.Name y p3) (some (.Attribute (.Name "self" p1) f p2)) p4.line env = pure false := by intro _; rfl) : FnOk P w K mg base CX0 1 fI fd ["self", y] (spIn C [f]) := by
  refine F.ok S (fun vs H Q E h => ?_) fun cdv A outer s H vs Q E hr h => ⟨tOst K f (tVar 0) (tVar 1), ?_, ?_⟩
  · obtain ⟨a, ys, rfl, hl, _⟩ := h
    simp [hl]
  · rw [hb]
    exact pss_one (ps_ost (pe_var rfl hv1) (pe_var rfl hv2 hdy hcy) (hs _))
  · obtain ⟨a, ys, rfl, hl, he, k⟩ := h
    match ys, hl with
    | [y1], _ =>
      refine ⟨y1, rfl, .ref a, rfl, a, C, rfl, T, hno, .inl ⟨he, fun dx hd ne => ?_⟩⟩
      exact k dx _ hd ne upd_same (by rw [upd_ne ne, upd_same]; rfl) fun b h1 h2 => by rw [upd_ne h1, upd_ne h2]
theorem dqA_rev {K : PySem.W.Frag} {G : Hp} {vs : List V} {ds : List PyData} (h : DqA K G vs ds) : DqA K G vs.reverse ds.reverse := by
  refine ⟨by simp [h.1], fun i v d hv hd => ?_⟩
  have hi : i < vs.length := by have := (List.getElem?_eq_some_iff.mp hv).1; simpa using this
  rw [List.getElem?_reverse hi] at hv
  rw [List.getElem?_reverse (by rw [← h.1]; exact hi), ← h.1] at hd
  exact h.2 _ _ _ hv hd
theorem zip_fst {α : Type} : ∀ {l : List Str} {r : List α}, l.length = r.length → (l.zip r).map (·.1) = l
  | [], [], _ => rfl
  | _ :: l, _ :: r, h => by simp [zip_fst (l := l) (r := r) (by simpa using h)]
theorem zip_snd {α : Type} : ∀ {l : List Str} {r : List α}, l.length = r.length → (l.zip r).map (·.2) = r
  | [], [], _ => rfl
  | _ :: l, _ :: r, h => by simp [zip_snd (l := l) (r := r) (by simpa using h)]
section
variable {ι : Type} {Xf : ι → Cx} {W : WX} {P : Program} {w : World} {K : PySem.W.Frag} {mg : Str → Option Value} {base : Heap} {n : Nat} [F : Fam Xf P w K mg base n]
variable {M : Mk} {m m1 m2 mn mx : List Ty} {pos p p2 spos : Pos} {a : Expr} {es : List Expr} {fr : Lf} {tys : List Ty} {L : List (Option Nat)}
include F in
theorem sx_raise [FG : FamG Xf] [FT : FamT Xf W] {k : Nat} {x : Str} (flds : List Str) (T : ExcT P w K mg base k x flds) (ha : PAL Xf K m (a :: es) tys L fr m1) (lx : LeM m1 mx) (ht : tys = List.replicate flds.length .s := by rfl) (hk : k + 1 ≤ n := by decide) (hn : flds.length ≤ 1000 := by decide) (hg : ∀ i, Gl (Xf i) x := by intro _; rfl)
    (hdb : (x == ("__debug__" : Str)) = false := by decide) (he : ∀ i, starEach (a :: es) (Xf i).env = (false, eval a (Xf i).env) :: starEach es (Xf i).env := by intro _; rfl) (hpl : ∀ i, (backTo pos (starEach es (Xf i).env)).any (·.1) = false := by intro _; rfl) :
    PSX Xf W K mg M mx m (.Raise (some (.Call (.Name x p) (a :: es) [] pos)) none spos) (xRaise x flds fr) mn := by
  obtain ⟨ta, pa, da⟩ := ha.ex
  obtain ⟨C, fI, fd, ps, OX, gC, iC, tI, FI, bI⟩ := T.ex
  refine ⟨fun _ σ H => tMkO C (spIn C flds) [] ta σ H fun cls d H' => W cls d σ H', fun i => ?_, fun {G H σ e A o e' D} st hf k' => ?_⟩
  · have e1 := F.prog i
    have e2 := F.w_ i
    have e3 := F.kk i
    have e4 := F.mg_ i
    have e5 := F.base_ i
    subst e1 e2 e3 e4 e5
    exact L2N.ps_raise (FG.calm i) (FT.tk i) (pmk_oexN OX iC tI FI ((rmOf F FG i).mono hk) bI pass0 (hg i) gC (pa i) hdb (he i) (hpl i))
  · unfold xRaise at hf
    obtain ⟨⟨ds, e1⟩, hf1, hf⟩ := oBs hf
    obtain ⟨hl, hf⟩ := ite_some2 hf
    cases hf
    refine da st hf1 fun G1 H1 vs A1 B1 s1 st1 o1 nd1 _ => ?_
    subst ht
    obtain ⟨rfl, q⟩ := of_ownA o1
    have hlv : vs.length = flds.length := by rw [q.1]; exact hl
    refine ⟨by rw [hlv]; exact hn, fun z hz => ⟨z, vs, by simp, hlv, upd_same, fun dx H' hdx hne h1 h2 h3 => ⟨rfl, dx, _, h1, h2, ?_, ?_⟩⟩⟩
    · rw [upd_ne hne] at hdx; exact hdx
    · rw [upd_ne hne] at hdx
      have eH : upd (del H' z) dx (.xd (flds.zip vs).reverse) = upd H1 dx (.xd (flds.zip vs).reverse) := by
        funext b
        by_cases hb : b = dx
        · subst hb; rw [upd_same, upd_same]
        · rw [upd_ne hb, upd_ne hb]
          by_cases hbz : b = z
          · subst hbz; rw [del_same, hz]
          · rw [del_ne hbz, h3 b hbz hb, upd_ne hbz]
      rw [eH]
      obtain ⟨s2, st2, sg⟩ := new_s (o := .xd (flds.zip vs).reverse) st1 hdx
      obtain ⟨G3, A3, s3, st3⟩ := stt_le lx st2
      have ex : ExAt K mg (upd G1 dx (.xd (flds.zip vs).reverse)) x (flds.zip ds).reverse (.ref C) (some dx) := by
        refine ⟨C, (flds.zip vs).reverse, gC, rfl, fun y hy => (by cases hy; exact upd_same), fun h => (by cases h), ?_, ?_⟩
        · rw [List.map_reverse, List.map_reverse, zip_fst hlv.symm, zip_fst hl.symm]
        · rw [List.map_reverse, List.map_reverse, zip_snd hlv.symm, zip_snd hl.symm]
          exact dqA_rev (q.mono sg)
      have s1' : Step A G H B1 G1 H1 := s1
      exact k' G3 _ σ A3 (.ref C) (some dx) ((s1'.seq0 s2).seq0 s3) st3 Pin.refl (ex.mono s3.sg)
end
def runFX (f : SfX) (r : Nat) : DFnX := fun ds => (f (ds ++ List.replicate r .none)).bind fun p => match p.1 with
  | .o (.rt d) => some (.ok d)
  | .o .nx => some (.ok .none)
  | .ex c fs => some (.ex c fs)
  | _ => none
def NoNxX (f : SfX) : Prop := ∀ e e', f e ≠ some (.o .nx, e')
theorem fnX_dl {P : Program} {w : World} {K : PySem.W.Frag} {mg : Str → Option Value} {base : Heap} {x qual : Str} {st : Stmt} {f : Addr} {fd : FuncData} {N ps : List Str} {k : Nat} {ptys : List Ty} {rty : Ty} {sf : SfX} {mr mx : List Ty} {r : Nat}
    (F : L2.Fun K x qual st f fd) (S : FnScope N ps (defScope st)) (hl : ptys.length = ps.length) (hr : N.length = ps.length + r) (hty : rty = .s ∨ NoNxX sf)
    (hbody : ∀ (cdv : Value) (A : Around) (outer : List Env) (s : Shared) (H : Hp) (E : XK), Fam (oneX (cxOf (L2N.CX P w) P w K mg base N qual (defScope st) f cdv A outer s H E)) P w K mg base k → FamG (oneX (cxOf (L2N.CX P w) P w K mg base N qual (defScope st) f cdv A outer s H E)) → FamN (oneX (cxOf (L2N.CX P w) P w K mg base N qual (defScope st) f cdv A outer s H E)) →
      FamT (oneX (cxOf (L2N.CX P w) P w K mg base N qual (defScope st) f cdv A outer s H E)) (fun cls d _ H => E cls d H) →
      PSXs (oneX (cxOf (L2N.CX P w) P w K mg base N qual (defScope st) f cdv A outer s H E)) (fun cls d _ H => E cls d H) K mg ⟨[], [], mr, [], rty⟩ mx (ptys ++ List.replicate r .u) (defBody st) sf mr) : FnX P w K mg base (k + 1) f fd ps (spX K mg ptys rty (runFX sf r)) := by
  refine fnX_of F S (fun vs H Q E h => ?_) fun cdv A outer s H vs Q E room gd h => ?_
  · obtain ⟨ds, d, G, _, o, _⟩ := h
    have := ownA_len o
    rw [List.length_map] at this
    omega
  · obtain ⟨ds, d, G, hF, o0, sub, kont⟩ := h
    have ln := ownA_len o0
    rw [List.length_map] at ln
    obtain ⟨t, pt, dt⟩ := (hbody cdv A outer s H E ⟨fun _ => rfl, fun _ => rfl, fun _ => rfl, fun _ => rfl, fun _ => rfl, fun _ => room.u, fun _ => S.nd⟩ ⟨fun _ => gd, fun _ => rfl, fun _ => room.hd⟩ ⟨fun _ => passes_of rfl⟩ ⟨fun _ => L2N.takes_of rfl rfl rfl rfl⟩).ex
    refine ⟨t, pt (), ?_⟩
    obtain ⟨⟨o, e'⟩, h1, h2⟩ := oBs hF
    have hst : L2.start N vs = vs.map some ++ List.replicate r none := by
      unfold L2.start
      rw [show N.length - vs.length = r by omega]
    have st0 : Stt K (ptys ++ List.replicate r .u) G H (L2.start N vs) (ds ++ List.replicate r .none) [] := ⟨by rw [hst]; exact ownA_us r o0, List.nodup_nil, sub⟩
    refine dt st0 h1 ?_
    match o, h1, h2 with
    | .o .nx, h1, h2 =>
      cases h2
      rcases hty with hty | hty
      · subst hty
        exact fun G' H' σ' A' s' st' pn => kont G' H' .non [] (s'.less fun a h => by cases h) (.s .non) List.nodup_nil st'.sub
      · exact absurd h1 (hty _ _)
    | .o .bk, _, h2 => cases h2
    | .o .ct, _, h2 => cases h2
    | .o (.rt d1), _, h2 =>
      cases h2
      exact fun G' H' σ' v Av A' s' st' ov ndv pn => kont G' H' v Av (s'.less fun a ha => List.mem_append_left _ ha) ov (List.nodup_append.mp ndv).1 st'.sub
    | .ex c fs, _, h2 =>
      cases h2
      exact fun G' H' σ' A' cls dx s' st' pn ex => kont G' H' cls dx (s'.less fun a h => by cases h) ex st'.sub
end DL
namespace DL
open PySem L2 PySem.Spec
structure TI {ι : Type} (Xf : ι → Cx) (W : WX) where
  i : ι
  pn : List (Addr × Obj)
  xe : Value → Shared → Prop
  tk : L2N.Takes ((Xf i).tr pn xe) W
  ps : PassesOwn (model (Xf i).prog (Xf i).w) (Xf i).A (Xf i).env xe
def tryF {ι : Type} (Xf : ι → Cx) (W : WX) : TI Xf W → Cx := fun b => (Xf b.i).tr b.pn b.xe
section
variable {ι : Type} {Xf : ι → Cx} {P : Program} {w : World} {K : PySem.W.Frag} {mg : Str → Option Value} {base : Heap} {n : Nat} {W : WX}
instance [F : Fam Xf P w K mg base n] : Fam (tryF Xf W) P w K mg base n :=
  ⟨fun b => F.prog b.i, fun b => F.w_ b.i, fun b => F.kk b.i, fun b => F.mg_ b.i, fun b => F.base_ b.i, fun b => F.room b.i, fun b => F.nd b.i⟩
instance [F : FamG Xf] : FamG (tryF Xf W) := ⟨fun b => F.gd b.i, fun b => F.calm b.i, fun b => F.hd b.i⟩
instance : FamN (tryF Xf W) := ⟨fun b => b.ps⟩
instance : FamT (tryF Xf W) W := ⟨fun b => b.tk⟩
end
structure SI {ι : Type} (Xf : ι → Cx) (cls : Value) (d : Option Addr) where
  i : ι
  oe : Obj
  pn : List (Addr × Obj)
  hz : L2N.Zn cls d oe
  hf : ∃ vs, oe.data = .fields vs
def suF {ι : Type} (Xf : ι → Cx) (a : Addr) (cls : Value) (d : Option Addr) : SI Xf cls d → Cx := fun b => (Xf b.i).suite a ((a, b.oe) :: b.pn)
section
variable {ι : Type} {Xf : ι → Cx} {P : Program} {w : World} {K : PySem.W.Frag} {mg : Str → Option Value} {base : Heap} {n : Nat} {a : Addr} {cls : Value} {d : Option Addr}
instance [F : Fam Xf P w K mg base n] : Fam (suF Xf a cls d) P w K mg base n :=
  ⟨fun b => F.prog b.i, fun b => F.w_ b.i, fun b => F.kk b.i, fun b => F.mg_ b.i, fun b => F.base_ b.i, fun b => ⟨(F.room b.i).dp, (F.room b.i).un⟩, fun b => F.nd b.i⟩
instance [F : FamG Xf] : FamD (suF Xf a cls d) := ⟨fun b => F.gd b.i⟩
end
abbrev CT := List (Str × List Str)
def sTryA (tb : CT) (j : Nat) (fb : SfX) (fs : Sf) : Sf := fun e => (fb e).bind fun p => match p.1 with
  | .o x => some (x, p.2)
  | .ex c fl => if tb.lookup c = some (fl.map (·.1)) then fs (p.2.set j (.tuple (.str c :: fl.map (·.2)))) else none
def uAt (m : List Ty) (j : Nat) : Bool := match m[j]? with
  | some .u => true
  | none => true
  | _ => false
section
variable {K : PySem.W.Frag} {G H : Hp}
theorem ownA_setn {m : List Ty} {e : En} {σ : St} {A : List Addr} {j : Nat} (h : OwnA K G H m e σ A) (hu : uAt m j = true) : OwnA K G H m e (σ.set j none) A := by
  unfold uAt at hu
  cases q : m[j]? with
  | none =>
    have hl := (ownA_len h).2
    have : m.length ≤ j := List.getElem?_eq_none_iff.mp q
    rw [List.set_eq_of_length_le (by have := (ownA_len h).1; omega)]
    exact h
  | some t =>
    rw [q] at hu
    have ht : t = .u := by cases t <;> first | rfl | cases hu
    subst ht
    have hl := ownA_len h
    have hj : j < e.length := by have := (List.getElem?_eq_some_iff.mp q).1; omega
    have := ownA_set0 h (t := .u) (d := e[j]) (v := none) (.inl q) (.u _ _)
    rwa [set_id q, set_id (List.getElem?_eq_getElem hj)] at this
theorem stt_setn {m : List Ty} {e : En} {σ : St} {A : List Addr} {j : Nat} (h : Stt K m G H σ e A) (hu : uAt m j = true) : Stt K m G H (σ.set j none) e A := ⟨ownA_setn h.own hu, h.nd, h.sub⟩
end
theorem pss_any {X : Cx} {st : List Stmt} : PSs X st (fun D σ H => ∃ t : TS, PSs X st t ∧ t D σ H) :=
  ⟨fun pins s σ H D I h => by obtain ⟨t, p, q⟩ := h; exact p.run pins s σ H D I q⟩
theorem pss_imp {X : Cx} {st : List Stmt} {t u : TS} (h : PSs X st t) (k : ∀ D σ H, u D σ H → t D σ H) : PSs X st u :=
  ⟨fun pins s σ H D I q => h.run pins s σ H D I (k _ _ _ q)⟩
section
variable {ι : Type} {Xf : ι → Cx} {P : Program} {w : World} {K : PySem.W.Frag} {mg : Str → Option Value} {base : Heap} {n : Nat} [F : Fam Xf P w K mg base n]
variable {M : Mk} {m mn mx : List Ty} {pos pos' np : Pos} {x nm : Str} {cx : Value} {body suite : List Stmt} {b₀ : Stmt} {fb : SfX} {fs : Sf}
include F in
theorem ds_tryA (tb : CT) (j : Nat) (hm : mg x = some cx) (hc : ∀ c l, tb.lookup c = some l → ∃ C, mg c = some (.ref C) ∧ PySem.W.exmOne K (.ref C) cx = some true)
    (hb : ∀ W : WX, PSXs (tryF Xf W) W K mg M mx m body fb mn)
    (hsu : ∀ (a : Addr) (cls : Value) (d : Option Addr) (fl : List (Str × V)) (c : Str), tb.lookup c = some (fl.map (·.1)) → mg c = some cls → (d = none → fl = []) → PSsd (suF Xf a cls d) K M (mx.set j (.e a d fl c)) (b₀ :: suite) fs mn)
    (hj : j < mx.length := by first | decide | rfl | simp) (hp : j ∉ M.po := by first | decide | rfl | simp) (un : uAt mn j = true := by rfl) (ub : uAt M.b j = true := by rfl) (uc : uAt M.c j = true := by rfl)
    (hN : ∀ i, (Xf i).N[j]? = some nm := by intro _; rfl) (hln : ∀ i, (Xf i).env.kindOf nm = some .local := by intro _; rfl)
    (hs : ∀ i, (Xf i).stack = (Xf i).env :: (Xf i).outer := by intro _; rfl) (hf : ∀ i, (Xf i).env.frame = some (Xf i).env.locals := by intro _; rfl) (hg : ∀ i, Gl (Xf i) x := by intro _; rfl) (hdb : (x == ("__debug__" : Str)) = false := by decide) :
    PSd Xf K M m (.Try body [.ExceptHandler (some (.Name x np)) (some nm) (b₀ :: suite) pos'] [] [] pos) (sTryA tb j fb fs) mn := by
  let tbW : WX → TS := fun W D σ H => ∃ t : TS, (∀ b : TI Xf W, PSs (tryF Xf W b) body t) ∧ t D σ H
  let tsA : Addr → Value → Option Addr → TS := fun a cls d D σ H => ∃ t : TS, (∀ b : SI Xf cls d, PSs (suF Xf a cls d b) (b₀ :: suite) t) ∧ t D σ H
  refine ⟨fun D σ H => tbW (wAs K cx j tsA (fun _ _ _ _ => False) D) D σ H, fun i => ?_, fun {G H σ e A o e' D} st hf' k => ?_⟩
  · have e3 := F.kk i
    have e4 := F.mg_ i
    have := L2N.ps_try_as (X := Xf i) (c := cx) (i := j) (n := nm) (pos := pos) (pos' := pos') (np := np) (tb := tbW) (ts := tsA) (Wout := fun _ _ _ _ => False) (hs i) (hf i) (F.nd i) (hN i) (hln i) ⟨hg i, hdb, .inl (by rw [e4]; exact hm)⟩ takes0N
      (fun W pn xe tk ps => pss_imp (pss_any (X := (Xf i).tr pn xe) (st := body)) fun D σ H ⟨t, p, q⟩ => ⟨t, p ⟨i, pn, xe, tk, ps⟩, q⟩)
      (fun a oe cls d pn hz hv => pss_imp (pss_any (X := (Xf i).suite a ((a, oe) :: pn)) (st := b₀ :: suite)) fun D σ H ⟨t, p, q⟩ => ⟨t, p ⟨i, oe, pn, hz, hv⟩, q⟩)
    rw [e3] at this
    exact this
  · obtain ⟨⟨o1, e1⟩, hf1, hf2⟩ := oBs hf'
    obtain ⟨t, pt, dt⟩ := (hb (wAs K cx j tsA (fun _ _ _ _ => False) D)).ex
    refine ⟨t, pt, dt st hf1 ?_⟩
    match o1, hf2 with
    | .o x1, hf2 => cases hf2; exact k
    | .ex c fl, hf2 =>
      obtain ⟨hl, hf3⟩ := ite_some2 hf2
      intro G1 H1 σ1 A1 cls dx s1 st1 p1 ex
      obtain ⟨C, hC, hx⟩ := hc c _ hl
      obtain ⟨C', fv, h1, rfl, h3, h4, h5, h6⟩ := ex
      rw [hC] at h1
      cases h1
      refine ⟨true, hx, fun _ a ha => ?_, fun z => by cases z⟩
      have h7 : dx = none → fv = [] := fun z => by
        have := h4 z
        subst this
        simpa using h5
      obtain ⟨t2, p2, d2⟩ := (hsu a (.ref C) dx fv c (by rw [h5]; exact hl) hC h7).ex
      obtain ⟨A2, st2, hA2⟩ := stt_set st1 hj (.e (a := a) (c := c) h3 h6) (Av := []) st1.nd
      refine ⟨t2, p2, d2 st2 hf3 ?_⟩
      have s2 : Step A1 G1 H1 A2 G1 H1 := ⟨Same.refl _, fun _ _ h _ => h, fun b hb => .inl (hA2 b hb), fun b hb ⟨o, ho⟩ => by rw [hb] at ho; cases ho⟩
      have pj : ∀ {σ2 : St}, Pin M.po (σ1.set j (some (.ref a))) σ2 → Pin M.po σ1 (σ2.set j none) := fun {σ2} hp2 => ((Pin.set hp).trans hp2).trans (Pin.set hp)
      match o, k with
      | .nx, k => exact fun G' H' σ' A' s' st' p' => k G' H' _ A' ((s1.seq0 s2).seq0 s') (stt_setn st' un) (p1.trans (pj p'))
      | .bk, k => exact fun G' H' σ' A' s' st' p' => k G' H' _ A' ((s1.seq0 s2).seq0 s') (stt_setn st' ub) (p1.trans (pj p'))
      | .ct, k => exact fun G' H' σ' A' s' st' p' => k G' H' _ A' ((s1.seq0 s2).seq0 s') (stt_setn st' uc) (p1.trans (pj p'))
      | .rt r, k => exact fun G' H' σ' v Av A' s' st' o' nd p' => k G' H' σ' v Av A' ((s1.seq0 s2).seq0 s') st' o' nd (p1.trans ((Pin.set hp).trans p'))
end
end DL
namespace DL
open PySem L2 PySem.Spec
def gOk (d : PyData) : Option PyData := some (.list [d])
def gUn : PyData → Option PyData
  | .list [d] => some d
  | _ => none
def gRz (c : Str) : PyData → Option PyData
  | .tuple vs => some (.tuple (.str c :: vs.reverse))
  | _ => none
def decR (tb : CT) : PyData → Option Res
  | .list [d] => some (.ok d)
  | .tuple (.str c :: vs) => (tb.lookup c).bind fun l => if l.length = vs.length then some (.ex c (l.zip vs)) else none
  | _ => none
def gIsOk (tb : CT) : PyData → Option PyData
  | .list [_] => some (.bool true)
  | .tuple (.str c :: vs) => (tb.lookup c).bind fun l => if l.length = vs.length then some (.bool false) else none
  | _ => none
def gIsE (rt : List (Str × Bool)) : PyData → Option PyData
  | .tuple (.str c :: _) => (rt.lookup c).bind fun b => some (.bool b)
  | _ => none
def gFldE (tb : CT) (f : Str) : PyData → Option PyData
  | .tuple (.str c :: vs) => (tb.lookup c).bind fun l => (l.zip vs).lookup f
  | _ => none
theorem decR_of {tb : CT} {v : PyData} {r : Res} (h : decR tb v = some r) : (∃ d, v = .list [d] ∧ r = .ok d) ∨ (∃ c vs l, v = .tuple (.str c :: vs) ∧ tb.lookup c = some l ∧ l.length = vs.length ∧ r = .ex c (l.zip vs)) := by
  unfold decR at h
  split at h
  · cases h; exact .inl ⟨_, rfl, rfl⟩
  · rename_i c vs
    obtain ⟨l, h1, h2⟩ := oBs h
    obtain ⟨h3, h4⟩ := ite_some2 h2
    cases h4
    exact .inr ⟨c, vs, l, rfl, h1, h3, rfl⟩
  · cases h
theorem isOk_of {tb : CT} {v b : PyData} (h : gIsOk tb v = some b) : (∃ d, v = .list [d] ∧ b = .bool true) ∨ (∃ c vs l, v = .tuple (.str c :: vs) ∧ tb.lookup c = some l ∧ l.length = vs.length ∧ b = .bool false) := by
  unfold gIsOk at h
  split at h
  · cases h; exact .inl ⟨_, rfl, rfl⟩
  · rename_i c vs
    obtain ⟨l, h1, h2⟩ := oBs h
    obtain ⟨h3, h4⟩ := ite_some2 h2
    cases h4
    exact .inr ⟨c, vs, l, rfl, h1, h3, rfl⟩
  · cases h
theorem decR_ex {tb : CT} {c : Str} {vs : List PyData} {l : List Str} (h : tb.lookup c = some l) (hl : l.length = vs.length) : decR tb (.tuple (.str c :: vs)) = some (.ex c (l.zip vs)) := by
  show (tb.lookup c).bind _ = _
  rw [h, Option.bind_some, if_pos hl]
def decX (tb : CT) (f : Sf) : SfX := fun e => (f e).bind fun p => match p.1 with
  | .rt v => (decR tb v).bind fun r => match r with
    | .ok d => some (.o (.rt d), p.2)
    | .ex c fs => some (.ex c fs, p.2)
  | .nx => some (.o .nx, p.2)
  | .bk => some (.o .bk, p.2)
  | .ct => some (.o .ct, p.2)
def decF (tb : CT) (F : DFn) : DFnX := fun ds => (F ds).bind fun q => decR tb q.1
def NoRt (f : Sf) : Prop := ∀ e d e', f e ≠ some (.rt d, e')
theorem nrt_nil : NoRt sNil := fun e d e' h => by cases h
theorem nrt_asg {j : Nat} {f : Ef} : NoRt (sAsg j f) := fun e d e' h => by
  obtain ⟨p, _, h⟩ := Option.map_eq_some_iff.mp h
  cases h
theorem nrt_drop {f : Ef} : NoRt (sDrop f) := fun e d e' h => by
  obtain ⟨p, _, h⟩ := Option.map_eq_some_iff.mp h
  cases h
theorem nnx_dec {tb : CT} {f : Sf} (h : NoNx f) : NoNxX (decX tb f) := fun e e' z => by
  obtain ⟨⟨o, e1⟩, h1, h2⟩ := oBs z
  cases o with
  | nx => exact h _ _ h1
  | bk => cases h2
  | ct => cases h2
  | rt v =>
    obtain ⟨r, _, h2⟩ := oBs h2
    cases r <;> cases h2
section
variable {ι : Type} {Xf : ι → Cx} {W : WX} {P : Program} {w : World} {K : PySem.W.Frag} {mg : Str → Option Value} {base : Heap} {n : Nat} [F : Fam Xf P w K mg base n]
variable {M : Mk} {m m1 m2 mn mx : List Ty} {pos p p2 spos : Pos} {c v a : Expr} {es : List Expr} {st : Stmt} {rest body orelse : List Stmt} {f g : Sf} {fx gx : SfX} {bf : Bf} {ef : Ef} {fr : Lf} {tys : List Ty} {L : List (Option Nat)} {tb : CT} {rty ty : Ty}
theorem sx_mono (h : PSX Xf W K mg M mx m st fx mn) (k : ∀ e r, gx e = some r → fx e = some r) : PSX Xf W K mg M mx m st gx mn := by
  obtain ⟨t, p, d⟩ := h.ex
  exact ⟨t, p, fun st' hf kk => d st' (k _ _ hf) kk⟩
theorem sxs_mono (h : PSXs Xf W K mg M mx m rest fx mn) (k : ∀ e r, gx e = some r → fx e = some r) : PSXs Xf W K mg M mx m rest gx mn := by
  obtain ⟨t, p, d⟩ := h.ex
  exact ⟨t, p, fun st' hf kk => d st' (k _ _ hf) kk⟩
theorem dec_xO (h : NoRt f) (e : En) (r : OutX × En) (hf : decX tb f e = some r) : xO f e = some r := by
  obtain ⟨⟨o, e1⟩, h1, h2⟩ := oBs hf
  unfold xO
  rw [h1]
  cases o with
  | nx => cases h2; rfl
  | bk => cases h2; rfl
  | ct => cases h2; rfl
  | rt d => exact absurd h1 (h _ _ _)
theorem ex_of (h : PSd Xf K M m st f mn) (nr : NoRt f) : PSX Xf W K mg M mx m st (decX tb f) mn := sx_mono (sx_of h) (dec_xO nr)
theorem exs_of (h : PSsd Xf K M m rest f mn) (nr : NoRt f) : PSXs Xf W K mg M mx m rest (decX tb f) mn := sxs_mono (sxs_of h) (dec_xO nr)
theorem exs_one (h : PSX Xf W K mg M mx m st (decX tb f) mn) : PSXs Xf W K mg M mx m [st] (decX tb f) mn := sxs_one h
theorem exs_cons (h1 : PSX Xf W K mg M mx m st (decX tb f) m1) (h2 : PSXs Xf W K mg M mx m1 rest (decX tb g) mn) : PSXs Xf W K mg M mx m (st :: rest) (decX tb (sSeq f g)) mn :=
  sxs_mono (sxs_cons h1 h2) fun e r hf => by
    obtain ⟨⟨o, e1⟩, h3, h4⟩ := oBs hf
    obtain ⟨⟨o2, e2⟩, h5, h6⟩ := oBs h3
    unfold xSeqX decX
    rw [h5, Option.bind_some]
    cases o2 with
    | nx =>
      have h6 : g e2 = some (o, e1) := h6
      show decX tb g e2 = some r
      unfold decX
      rw [h6]
      exact h4
    | bk => cases h6; cases h4; rfl
    | ct => cases h6; cases h4; rfl
    | rt d =>
      cases h6
      obtain ⟨r1, h7, h8⟩ := oBs h4
      show ((((decR tb d).bind _ : Option (OutX × En))).bind _) = some r
      rw [h7, Option.bind_some]
      cases r1 with
      | ok d1 => cases h8; rfl
      | ex c fs => cases h8; rfl
theorem ex_if (hc : PB Xf K m c bf m1) (ha : PSXs Xf W K mg M mx m1 body (decX tb f) mn) (hb : PSXs Xf W K mg M mx m1 orelse (decX tb g) mn) : PSX Xf W K mg M mx m (.If c body orelse pos) (decX tb (sIf bf f g)) mn :=
  sx_mono (sx_if hc ha hb) fun e r hf => by
    obtain ⟨⟨o, e1⟩, h3, h4⟩ := oBs hf
    obtain ⟨⟨b, e2⟩, h5, h6⟩ := oBs h3
    unfold xIfX
    rw [h5, Option.bind_some]
    cases b with
    | true =>
      have h6 : f e2 = some (o, e1) := h6
      show decX tb f e2 = some r
      unfold decX
      rw [h6]
      exact h4
    | false =>
      have h6 : g e2 = some (o, e1) := h6
      show decX tb g e2 = some r
      unfold decX
      rw [h6]
      exact h4
theorem ex_ret (he : PD Xf K m v M.ty ef m1) (l : LeM m1 M.r) : PSX Xf W K mg M mx m (.Return (some v) pos) (decX tb (sRet (e1 gOk ef))) mn :=
  sx_mono (sx_of (ds_ret he l)) fun e r hf => by
    obtain ⟨⟨o, e1'⟩, h3, h4⟩ := oBs hf
    obtain ⟨⟨d, e2⟩, h5, h6⟩ := Option.map_eq_some_iff.mp h3
    unfold e1 at h5
    obtain ⟨⟨d1, e3⟩, h7, h8⟩ := oBs h5
    cases h8
    cases h6
    cases h4
    unfold xO sRet
    rw [h7]
    rfl
theorem zip_rev {α : Type} {l : List Str} {r : List α} (h : l.length = r.length) : (l.zip r).reverse = l.reverse.zip r.reverse := by
  induction l generalizing r with
  | nil => simp
  | cons a l ih =>
    cases r with
    | nil => simp at h
    | cons b r =>
      have h' : l.length = r.length := by simpa using h
      rw [List.zip_cons_cons, List.reverse_cons, List.reverse_cons, List.reverse_cons, ih h', List.zip_append (by simp [h'])]
      rfl
include F in
theorem ex_raise [FG : FamG Xf] [FT : FamT Xf W] {k : Nat} {x : Str} (flds : List Str) (T : ExcT P w K mg base k x flds) (ha : PAL Xf K m (a :: es) tys L fr m1) (lx : LeM m1 mx) (hl : tb.lookup x = some flds.reverse := by rfl) (ht : tys = List.replicate flds.length .s := by rfl) (hk : k + 1 ≤ n := by decide) (hn : flds.length ≤ 1000 := by decide) (hg : ∀ i, Gl (Xf i) x := by intro _; rfl)
    (hdb : (x == ("__debug__" : Str)) = false := by decide) (he : ∀ i, starEach (a :: es) (Xf i).env = (false, eval a (Xf i).env) :: starEach es (Xf i).env := by intro _; rfl) (hpl : ∀ i, (backTo pos (starEach es (Xf i).env)).any (·.1) = false := by intro _; rfl) :
    PSX Xf W K mg M mx m (.Raise (some (.Call (.Name x p) (a :: es) [] pos)) none spos) (decX tb (sRet (e1 (gRz x) (eTup fr)))) mn :=
  sx_mono (sx_raise flds T ha lx ht hk hn hg hdb he hpl) fun e r hf => by
    obtain ⟨⟨o, e1'⟩, h3, h4⟩ := oBs hf
    obtain ⟨⟨d, e2⟩, h5, h6⟩ := Option.map_eq_some_iff.mp h3
    unfold e1 eTup at h5
    obtain ⟨⟨d1, e3⟩, h7, h8⟩ := oBs h5
    obtain ⟨⟨ds, e4⟩, h9, h10⟩ := oBs h7
    cases h10
    cases h8
    cases h6
    obtain ⟨r1, h11, h12⟩ := oBs h4
    unfold xRaise
    rw [h9, Option.bind_some]
    rcases decR_of h11 with ⟨d2, z, _⟩ | ⟨c2, vs2, l2, z, z2, z3, rfl⟩
    · cases z
    · cases z
      rw [hl] at z2
      cases z2
      have hl2 : ds.length = flds.length := by simpa using z3.symm
      cases h12
      show (if ds.length = flds.length then some (OutX.ex x (flds.zip ds).reverse, _) else none) = _
      rw [if_pos hl2, zip_rev hl2.symm]
end
theorem FnX.imp {P : Program} {w : World} {K : PySem.W.Frag} {mg : Str → Option Value} {base : Heap} {k : Nat} {f : Addr} {fd : FuncData} {ps : List Str} {sp sp' : Sp} (h : FnX P w K mg base k f fd ps sp') (i : ∀ vs H Q E, sp vs H Q E → sp' vs H Q E) : FnX P w K mg base k f fd ps sp :=
  ⟨fun vs H Q E z => h.len vs H Q E (i _ _ _ _ z), fun A outer s H args us vs Q E r g e0 b rel z => h.run A outer s H args us vs Q E r g e0 b rel (i _ _ _ _ z)⟩
theorem fnX_dlE {P : Program} {w : World} {K : PySem.W.Frag} {mg : Str → Option Value} {base : Heap} {x qual : Str} {st : Stmt} {f : Addr} {fd : FuncData} {N ps : List Str} {k : Nat} {ptys : List Ty} {rty : Ty} {sf : Sf} {mr mx : List Ty} {r : Nat} (tb : CT)
    (F : L2.Fun K x qual st f fd) (S : FnScope N ps (defScope st)) (hl : ptys.length = ps.length) (hr : N.length = ps.length + r) (hty : NoNx sf)
    (hbody : ∀ (cdv : Value) (A : Around) (outer : List Env) (s : Shared) (H : Hp) (E : XK), Fam (oneX (cxOf (L2N.CX P w) P w K mg base N qual (defScope st) f cdv A outer s H E)) P w K mg base k → FamG (oneX (cxOf (L2N.CX P w) P w K mg base N qual (defScope st) f cdv A outer s H E)) → FamN (oneX (cxOf (L2N.CX P w) P w K mg base N qual (defScope st) f cdv A outer s H E)) →
      FamT (oneX (cxOf (L2N.CX P w) P w K mg base N qual (defScope st) f cdv A outer s H E)) (fun cls d _ H => E cls d H) →
      PSXs (oneX (cxOf (L2N.CX P w) P w K mg base N qual (defScope st) f cdv A outer s H E)) (fun cls d _ H => E cls d H) K mg ⟨[], [], mr, [], rty⟩ mx (ptys ++ List.replicate r .u) (defBody st) (decX tb sf) mr) : FnX P w K mg base (k + 1) f fd ps (spX K mg ptys rty (decF tb (runF sf ptys r))) := by
  refine (fnX_dl F S hl hr (.inr (nnx_dec hty)) hbody).imp fun vs H Q E h => ?_
  obtain ⟨ds, q, G, h1, rest⟩ := h
  refine ⟨ds, q, G, ?_, rest⟩
  obtain ⟨⟨v, fs⟩, h2, h3⟩ := oBs h1
  obtain ⟨⟨o, e1⟩, h4, h5⟩ := oBs h2
  unfold runFX decX
  rw [h4, Option.bind_some]
  cases o with
  | nx => exact absurd h4 (hty _ _)
  | bk => cases h5
  | ct => cases h5
  | rt d =>
    cases h5
    have h3 : decR tb v = some q := h3
    show (((decR tb v).bind _ : Option (OutX × En))).bind _ = some q
    rw [h3, Option.bind_some]
    cases q <;> rfl
section
variable {ι : Type} {Xf : ι → Cx} {W : WX} {P : Program} {w : World} {K : PySem.W.Frag} {mg : Str → Option Value} {base : Heap} {n : Nat} [F : Fam Xf P w K mg base n] [FG : FamG Xf]
variable {m m1 m2 m3 : List Ty} {pos p p2 : Pos} {a b c : Expr} {es : List Expr} {f g h : Ef} {fr : Lf} {ty : Ty} {tys : List Ty} {L : List (Option Nat)} {tb : CT}
end
end DL
namespace DL
open PySem L2 PySem.Spec
section
variable {ι : Type} {Xf : ι → Cx} {K : PySem.W.Frag} {M : Mk} {m mn : List Ty} {st : Stmt} {f g : Sf}
theorem ds_imp (h : PSd Xf K M m st f mn) (rel : ∀ e r, g e = some r → f e = some r) : PSd Xf K M m st g mn := by
  obtain ⟨t, p, d⟩ := h.ex
  exact ⟨t, p, fun s hf k => d s (rel _ _ hf) k⟩
end
section
variable {ι : Type} {Xf : ι → Cx} {P : Program} {w : World} {K : PySem.W.Frag} {mg : Str → Option Value} {base : Heap} {n : Nat} [F : Fam Xf P w K mg base n] [FG : FamG Xf]
variable {M : Mk} {m m1 mn mx : List Ty} {pos pos' np p2 p3 cp : Pos} {x nm g y : Str} {cx : Value} {suite : List Stmt} {b₀ : Stmt} {fs : Sf} {Fn : DFn} {fr : Lf} {tys : List Ty} {L : List (Option Nat)} {rty : Ty} {a : Expr} {es : List Expr} {k : Nat}
def Cat (K : PySem.W.Frag) (mg : Str → Option Value) (tb : CT) (cx : Value) : Prop := ∀ c l, tb.lookup c = some l → ∃ C, mg c = some (.ref C) ∧ PySem.W.exmOne K (.ref C) cx = some true
def Suit {ι : Type} (Xf : ι → Cx) (K : PySem.W.Frag) (mg : Str → Option Value) (M : Mk) (tb : CT) (mx : List Ty) (j : Nat) (suite : List Stmt) (fs : Sf) (mn : List Ty) : Prop :=
  ∀ (a : Addr) (cls : Value) (d : Option Addr) (fl : List (Str × V)) (c : Str), tb.lookup c = some (fl.map (·.1)) → mg c = some cls → (d = none → fl = []) → PSsd (suF Xf a cls d) K M (mx.set j (.e a d fl c)) suite fs mn
end
end DL
namespace DL
open PySem L2 PySem.Spec
theorem any_some' {K : PySem.W.Frag} {D : Addr} (h : PySem.W.hasDictIn K D = true) : (PySem.W.clsIn K D).isSome = true := by
  obtain ⟨cd, hc, _⟩ := PySem.W.any_some h
  rw [hc]; rfl
def rIsX (K : PySem.W.Frag) (D a : Addr) (d : Option Addr) : List V → Hp → VK → Prop := fun xs H Q => ∃ (c : V) (cv : Value) (b : Bool), xs = [.ref a, c] ∧ (∀ dd, d = some dd → ∃ fs, H dd = some (.xd fs)) ∧ (∀ u, RelV c u → u = cv) ∧ PySem.W.kitOne K (.ref D) cv = some b ∧ Q (.bl b) H
def rIsXT (K : PySem.W.Frag) (D a : Addr) (d : Option Addr) : List V → Hp → VK → Prop := fun xs H Q => ∃ (tp : Addr) (cs : List V) (us : List Value) (b : Bool), xs = [.ref a, .ref tp] ∧ (∀ dd, d = some dd → ∃ fs, H dd = some (.xd fs)) ∧ H tp = some (.tup cs) ∧ Paired ClsV cs us ∧ PySem.W.kitAny K (.ref D) us = some b ∧ Q (.bl b) H
theorem inst_x {X : Cx} {a D : Addr} {oe : Obj} {d : Option Addr} {pn pins : List (Addr × Obj)} {σ : St} {H : Hp} {s : Shared} (hz : Zc (.ref D) d oe) (hf : ∃ vs, oe.data = .fields vs) (I : L2.Inv (X.suite a ((a, oe) :: pn)) pins σ H s) (hd : ∀ dd, d = some dd → ∃ fs, H dd = some (.xd fs)) :
    ∃ od, PySem.W.InstAt s.heap a oe D od := by
  obtain ⟨ha, _⟩ := I.pin (a, oe) (List.mem_append_left _ List.mem_cons_self)
  obtain ⟨vs, hv⟩ := hf
  cases d with
  | none =>
    refine ⟨none, ?_⟩
    obtain ⟨oc, od, oda, osl⟩ := oe
    obtain ⟨h1, h2⟩ := hz
    dsimp only at h1 h2 hv
    subst h1 h2 hv
    exact ⟨ha, rfl, rfl, trivial⟩
  | some dd =>
    obtain ⟨fs, ea⟩ := hd dd rfl
    have hx : ObjOk X.prog X.w H s.heap dd (.xd fs) := I.hok dd _ ea
    obtain ⟨mA, hns, hr⟩ := hx
    obtain ⟨od, ho, hl⟩ := lookIn_ns hns
    exact ⟨some od, ha, hz.1, by unfold PySem.W.notCls; rw [hv] <;> rfl, by rw [hz.2]; exact ho⟩
theorem call_isX {X : Cx} {a D : Addr} {oe : Obj} {d : Option Addr} {pn : List (Addr × Obj)} (C : ExcC X.K D) (hz : Zc (.ref D) d oe) (hf : ∃ vs, oe.data = .fields vs) : CallR (X.suite a ((a, oe) :: pn)) (.builtin "isinstance") (rIsX X.K D a d) := by
  intro pins s σ H xs us Q I r h
  obtain ⟨c, cv, b, rfl, hd, hcv, e, q⟩ := h
  obtain ⟨u1, u2, rfl, r1, r2⟩ := vals2 r
  cases (show u1 = Value.ref a from r1)
  have ec := hcv _ r2
  subst ec
  obtain ⟨od, J⟩ := inst_x hz hf I hd
  exact PySem.W.kia_one (PySem.W.kitx_exc (any_some' C.hd) C.hg C.hk C.hs C.ha C.hn C.ht C.hm) I.kIn J e (fun z => nomatch z) fun tk => ⟨.bl b, H, I.tok tk, rfl, q⟩
theorem call_isXT {X : Cx} {a D : Addr} {oe : Obj} {d : Option Addr} {pn : List (Addr × Obj)} (C : ExcC X.K D) (hz : Zc (.ref D) d oe) (hf : ∃ vs, oe.data = .fields vs) : CallR (X.suite a ((a, oe) :: pn)) (.builtin "isinstance") (rIsXT X.K D a d) := by
  intro pins s σ H xs us Q I r h
  obtain ⟨tp, cs, ws, b, rfl, hd, hT, k, e, q⟩ := h
  obtain ⟨u1, u2, rfl, r1, r2⟩ := vals2 r
  cases (show u1 = Value.ref a from r1)
  cases (show u2 = Value.ref tp from r2)
  obtain ⟨od, J⟩ := inst_x hz hf I hd
  obtain ⟨_, its, rv, o, h1, h2, n, h3⟩ := (show ObjOk X.prog X.w H s.heap tp (.tup cs) from I.hok tp _ hT)
  have e3 := ClsV.all k rv
  subst e3
  obtain ⟨oc, od', dt, sl⟩ := o
  simp only at h2 h3
  subst h2 h3
  exact PySem.W.kia_tup (PySem.W.kitx_exc (any_some' C.hd) C.hg C.hk C.hs C.ha C.hn C.ht C.hm) I.kIn J h1 e (fun z => nomatch z) fun tk => ⟨.bl b, H, I.tok tk, rfl, q⟩
def IsT (K : PySem.W.Frag) (mg : Str → Option Value) (tb : CT) (rt : List (Str × Bool)) (cv : Value) : Prop := ∀ c l, tb.lookup c = some l → ∃ D, mg c = some (.ref D) ∧ ExcC K D ∧ ∀ b, rt.lookup c = some b → PySem.W.kitOne K (.ref D) cv = some b
def IsTs (K : PySem.W.Frag) (mg : Str → Option Value) (tb : CT) (rt : List (Str × Bool)) (cvs : List Value) : Prop := ∀ c l, tb.lookup c = some l → ∃ D, mg c = some (.ref D) ∧ ExcC K D ∧ ∀ b, rt.lookup c = some b → PySem.W.kitAny K (.ref D) cvs = some b
def FldT (K : PySem.W.Frag) (mg : Str → Option Value) (tb : CT) : Prop := ∀ c l, tb.lookup c = some l → ∃ D, mg c = some (.ref D) ∧ XfC K D ∧ ∀ f ∈ l, PySem.W.findIn K (.ref D) f = some none
section
variable {ι : Type} {Xf : ι → Cx} {P : Program} {w : World} {K : PySem.W.Frag} {mg : Str → Option Value} {base : Heap} {n : Nat} [F : Fam Xf P w K mg base n]
variable {m : List Ty} {pos p p1 p2 p3 : Pos} {x nm c : Str} {a : Addr} {cls : Value} {d : Option Addr} {fl : List (Str × V)} {tb : CT} {rt : List (Str × Bool)} {cv : Value} {v : V} {l : List Str}
theorem xe_slot {G H : Hp} {σ : St} {e : En} {A : List Addr} {j : Nat} (st : Stt K m G H σ e A) (hm : m[j]? = some (.e a d fl c)) : ∃ ds, e.getD j .none = .tuple (.str c :: ds) ∧ σ[j]? = some (some (.ref a)) ∧ (∀ x, d = some x → H x = some (.xd fl)) ∧ DqA K G (fl.map (·.2)) ds := by
  obtain ⟨d', v, Aj, A0, h1, h2, h3, _, _⟩ := ownA_take st.own hm
  cases h3 with
  | e k1 k2 => exact ⟨_, by rw [List.getD_eq_getElem?_getD, h1]; rfl, h2, fun x hx => st.sub _ _ (k1 x hx), k2⟩
include F in
theorem pd_isX (j : Nat) (hm : m[j]? = some (.e a d fl c)) (hmc : mg c = some cls) (htb : tb.lookup c = some l) (hi : IsT K mg tb rt cv) (hI : mg "isinstance" = none) (hT : ∀ i : SI Xf cls d, PE (suF Xf a cls d i) (.Name x p2) (tC v)) (hv : ∀ u, RelV v u → u = cv)
    (hN : ∀ i, (suF Xf a cls d i).N[j]? = some nm := by intro _; rfl) (hvs : ∀ i, Vis (suF Xf a cls d i).env.scope nm := by first | (intro _; exact Or.inl rfl) | (intro _; exact Or.inr (Or.inl rfl)) | (intro _; exact Or.inr (Or.inr rfl))) (hd : (nm == ("__debug__" : Str)) = false := by decide) (hcd : (nm == ("__classdict__" : Str)) = false := by decide) (hg : ∀ i, Gl (suF Xf a cls d i) "isinstance" := by intro _; rfl)
    (he : ∀ i, starEach [.Name nm p1, .Name x p2] (suF Xf a cls d i).env = (false, eval (.Name nm p1) (suF Xf a cls d i).env) :: starEach [.Name x p2] (suF Xf a cls d i).env := by intro _; rfl) (he2 : ∀ i, starEach [.Name x p2] (suF Xf a cls d i).env = (false, eval (.Name x p2) (suF Xf a cls d i).env) :: starEach [] (suF Xf a cls d i).env := by intro _; rfl) (hpl : ∀ i, (backTo pos (starEach [.Name x p2] (suF Xf a cls d i).env)).any (·.1) = false := by intro _; rfl) :
    PD (suF Xf a cls d) K m (.Call (.Name "isinstance" p) [.Name nm p1, .Name x p2] [] pos) .s (e1 (gIsE rt) (eVar j)) m := by
  obtain ⟨D, hD, EC, hk⟩ := hi c l htb
  rw [hmc] at hD
  cases hD
  refine ⟨_, fun i => (by
    have e3 := F.kk i.i
    have := pe_callB (X := suF Xf a (.ref D) d i) (pos := pos) (p := p) (call_isX (X := Xf i.i) (a := a) (pn := i.pn) (by rw [e3]; exact EC) i.hz.zc i.hf) (hg i) (by show (Xf i.i).mg _ = none; rw [F.mg_ i.i]; exact hI) bt_isinstance (pa_cons (pe_var (pos := p1) (hN i) (hvs i) hd hcd) (pa_cons (hT i) pa_nil (he2 i)) (he i)) (by decide) (by decide) (he i) (hpl i)
    rw [e3] at this
    exact this), fun {G H σ e A dd e' Q} st hf k => ?_⟩
  obtain ⟨ds, h1, h2, h3, _⟩ := xe_slot st hm
  have hf : ((gIsE rt (e.getD j .none)).bind fun r => some (r, e)) = some (dd, e') := hf
  rw [h1] at hf
  obtain ⟨r, h4, h5⟩ := oBs hf
  cases h5
  obtain ⟨b, h6, h7⟩ := oBs (show (rt.lookup c).bind _ = _ from h4)
  cases h7
  exact ⟨.ref a, h2, v, cv, b, rfl, fun z hz => ⟨fl, h3 z hz⟩, hv, hk b h6, ans_s st (.bl b) k⟩
inductive ClsE : (X : Cx) → List Expr → List V → Prop
  | nil (X : Cx) : ClsE X [] []
  | cons {X : Cx} {x : Str} {q : Pos} {es : List Expr} {v : V} {vs : List V} : PE X (.Name x q) (tC v) → (starEach (.Name x q :: es) X.env = (false, eval (.Name x q) X.env) :: starEach es X.env) → ClsE X es vs → ClsE X (.Name x q :: es) (v :: vs)
def tCs : List V → TA
  | [] => tNil
  | v :: vs => tCons (tC v) (tCs vs)
theorem clsE_pa {X : Cx} {es : List Expr} {vs : List V} (h : ClsE X es vs) : PA X es (tCs vs) := by
  induction h with
  | nil => exact pa_nil
  | cons h1 h2 _ ih => exact pa_cons h1 ih h2
theorem tCs_to {vs : List V} : ∀ {σ : St} {H : Hp} {Q : List V → Hp → Prop}, Q vs H → tCs vs σ H Q := by
  induction vs with
  | nil => intro σ H Q h; exact h
  | cons v vs ih => intro σ H Q h; exact ih h
include F in
theorem pd_isXT {es : List Expr} {vs : List V} {cvs : List Value} {k1 : Nat} (j : Nat) (hm : m[j]? = some (.e a d fl c)) (hmc : mg c = some cls) (htb : tb.lookup c = some l) (hi : IsTs K mg tb rt cvs) (hI : mg "isinstance" = none) (hT : ∀ i : SI Xf cls d, ClsE (suF Xf a cls d i) es vs) (hv : Paired ClsV vs cvs) (hz : vs.length ≤ sizeLine := by decide)
    (hN : ∀ i, (suF Xf a cls d i).N[j]? = some nm := by intro _; rfl) (hvs : ∀ i, Vis (suF Xf a cls d i).env.scope nm := by first | (intro _; exact Or.inl rfl) | (intro _; exact Or.inr (Or.inl rfl)) | (intro _; exact Or.inr (Or.inr rfl))) (hd : (nm == ("__debug__" : Str)) = false := by decide) (hcd : (nm == ("__classdict__" : Str)) = false := by decide) (hg : ∀ i, Gl (suF Xf a cls d i) "isinstance" := by intro _; rfl)
    (he : ∀ i, starEach [.Name nm p1, .Tuple es k1 p2] (suF Xf a cls d i).env = (false, eval (.Name nm p1) (suF Xf a cls d i).env) :: starEach [.Tuple es k1 p2] (suF Xf a cls d i).env := by intro _; rfl) (he2 : ∀ i, starEach [.Tuple es k1 p2] (suF Xf a cls d i).env = (false, eval (.Tuple es k1 p2) (suF Xf a cls d i).env) :: starEach [] (suF Xf a cls d i).env := by intro _; rfl) (hpl : ∀ i, (backTo pos (starEach [.Tuple es k1 p2] (suF Xf a cls d i).env)).any (·.1) = false := by intro _; rfl) :
    PD (suF Xf a cls d) K m (.Call (.Name "isinstance" p) [.Name nm p1, .Tuple es k1 p2] [] pos) .s (e1 (gIsE rt) (eVar j)) m := by
  obtain ⟨D, hD, EC, hk⟩ := hi c l htb
  rw [hmc] at hD
  cases hD
  refine ⟨_, fun i => (by
    have e3 := F.kk i.i
    have := pe_callB (X := suF Xf a (.ref D) d i) (pos := pos) (p := p) (call_isXT (X := Xf i.i) (a := a) (pn := i.pn) (by rw [e3]; exact EC) i.hz.zc i.hf) (hg i) (by show (Xf i.i).mg _ = none; rw [F.mg_ i.i]; exact hI) bt_isinstance (pa_cons (pe_var (pos := p1) (hN i) (hvs i) hd hcd) (pa_cons (pe_tup (x1 := k1) (pos := p2) (clsE_pa (hT i))) pa_nil (he2 i)) (he i)) (by decide) (by decide) (he i) (hpl i)
    rw [e3] at this
    exact this), fun {G H σ e A dd e' Q} st hf k => ?_⟩
  obtain ⟨ds, h1, h2, h3, _⟩ := xe_slot st hm
  have hf : ((gIsE rt (e.getD j .none)).bind fun r => some (r, e)) = some (dd, e') := hf
  rw [h1] at hf
  obtain ⟨r, h4, h5⟩ := oBs hf
  cases h5
  obtain ⟨b, h6, h7⟩ := oBs (show (rt.lookup c).bind _ = _ from h4)
  cases h7
  refine ⟨.ref a, h2, tCs_to ⟨hz, fun tp htp => ?_⟩⟩
  obtain ⟨s1, st1, nd1, gp⟩ := new_o (o := .tup vs) (B := []) st htp
  refine ⟨tp, vs, cvs, b, rfl, fun z hz => ⟨fl, by rw [upd_ne (ne_of_none (h3 z hz) htp)]; exact h3 z hz⟩, upd_same, hv, hk b h6, ?_⟩
  exact k G _ (.bl b) [] A (s1.less fun b hb => List.mem_cons_of_mem _ hb) st1 (.s (.bl b)) st1.nd
include F in
theorem pd_fldX (j : Nat) {f : Str} (hm : m[j]? = some (.e a d fl c)) (hmc : mg c = some cls) (htb : tb.lookup c = some (fl.map (·.1))) (hdf : d = none → fl = []) (hi : FldT K mg tb)
    (hN : ∀ i, (suF Xf a cls d i).N[j]? = some nm := by intro _; rfl) (hvs : ∀ i, Vis (suF Xf a cls d i).env.scope nm := by first | (intro _; exact Or.inl rfl) | (intro _; exact Or.inr (Or.inl rfl)) | (intro _; exact Or.inr (Or.inr rfl))) (hd : (nm == ("__debug__" : Str)) = false := by decide) (hcd : (nm == ("__classdict__" : Str)) = false := by decide)
    (hb : ∀ i, attributeBase (.Name nm p1) f (Xf i).env (eval (.Name nm p1) (Xf i).env) = eval (.Name nm p1) (Xf i).env := by intro _; rfl) :
    PD (suF Xf a cls d) K m (.Attribute (.Name nm p1) f pos) .s (e1 (gFldE tb f) (eVar j)) m := by
  obtain ⟨D, hD, XC, hk⟩ := hi c _ htb
  rw [hmc] at hD
  cases hD
  by_cases hno : f ∈ fl.map (·.1)
  · refine ⟨_, fun i => pe_xf (X := Xf i.i) (pos := pos) (n := f) (a := a) (cls := .ref D) (d := d) (pn := i.pn) (C := D) (by rw [F.kk i.i]; exact XC) (by rw [F.kk i.i]; exact hk f hno) i.hz.zc i.hf (pe_var (X := suF Xf a (.ref D) d i) (pos := p1) (hN i) (hvs i) hd hcd) (hb i.i), fun {G H σ e A dd e' Q} st hf k => ?_⟩
    obtain ⟨ds, h1, h2, h3, h4⟩ := xe_slot st hm
    have hf : ((gFldE tb f (e.getD j .none)).bind fun r => some (r, e)) = some (dd, e') := hf
    rw [h1] at hf
    obtain ⟨r, h5, h6⟩ := oBs hf
    cases h6
    have h5 : ((tb.lookup c).bind fun l => (l.zip ds).lookup f) = some dd := h5
    rw [htb, Option.bind_some] at h5
    -- the same place on both sides
    have key : ∀ (fl : List (Str × V)) (ds : List PyData), DqA K G (fl.map (·.2)) ds → ((fl.map (·.1)).zip ds).lookup f = some dd → ∃ v, fl.lookup f = some v ∧ Dq K G v dd := by
      intro fl
      induction fl with
      | nil => intro ds _ h; cases ds <;> cases h
      | cons q fl ih =>
        intro ds hq h
        cases ds with
        | nil => cases h
        | cons y ds =>
          obtain ⟨g, z⟩ := q
          rw [List.map_cons, List.zip_cons_cons, List.lookup_cons] at h
          rw [List.lookup_cons]
          cases hfg : f == g with
          | true => rw [hfg] at h; cases h; exact ⟨z, rfl, hq.head⟩
          | false => rw [hfg] at h; exact ih ds hq.tail h
    obtain ⟨v, hv, qv⟩ := key fl ds h4 h5
    cases d with
    | none => rw [hdf rfl] at hv; cases hv
    | some x1 => exact ⟨.ref a, h2, rfl, rfl, x1, fl, v, rfl, h3 x1 rfl, hv, ans_s st qv k⟩
  · -- no such field: nothing to show
    refine ⟨fun _ _ _ => False, fun i => ⟨fun _ _ _ _ _ _ z => z.elim⟩, fun {G H σ e A dd e' Q} st hf k => ?_⟩
    exfalso
    obtain ⟨ds, h1, h2, h3, h4⟩ := xe_slot st hm
    have hf : ((gFldE tb f (e.getD j .none)).bind fun r => some (r, e)) = some (dd, e') := hf
    rw [h1] at hf
    obtain ⟨r, h5, h6⟩ := oBs hf
    have h5 : ((tb.lookup c).bind fun l => (l.zip ds).lookup f) = some r := h5
    rw [htb, Option.bind_some] at h5
    have key : ∀ (ns : List Str) (ds : List PyData), f ∉ ns → (ns.zip ds).lookup f = none := by
      intro ns
      induction ns with
      | nil => intro ds _; rfl
      | cons g ns ih =>
        intro ds hf
        cases ds with
        | nil => rfl
        | cons y ds =>
          rw [List.zip_cons_cons, List.lookup_cons]
          have : (f == g) = false := by simpa using fun z : f = g => hf (by rw [z]; exact List.mem_cons_self ..)
          rw [this]
          exact ih ds fun z => hf (List.mem_cons_of_mem _ z)
    rw [key _ _ hno] at h5
    cases h5
end
theorem ct_nil {p : Str → List Str → Prop} : ∀ c l, ([] : CT).lookup c = some l → p c l := fun c l h => by cases h
theorem ct_cons {p : Str → List Str → Prop} {x : Str} {l0 : List Str} {tb : CT} (h : p x l0) (t : ∀ c l, tb.lookup c = some l → p c l) : ∀ c l, (((x, l0) :: tb : CT)).lookup c = some l → p c l := fun c l z => by
  rw [List.lookup_cons] at z
  cases e : c == x with
  | true => rw [e] at z; cases z; rw [eq_of_beq e]; exact h
  | false => rw [e] at z; exact t c l z
end DL
namespace DL
open PySem L2 PySem.Spec
def clsAt (s : Stmt) (k : Nat) : Stmt := match s with
  | .ClassDef (body := b) .. => b.getD k (.Pass ⟨0, 0, 0, 0⟩)
  | s => s
section
variable {K : PySem.W.Frag} {C CL N : Addr} {nm q : Str} {bs : List Value} {sn : List Str} {sub : List Value} {ab : Bool} {col : Option Bool} {dd : Option Addr} {m0 m1 m2 m3 m5 : Option Value}
end
end DL
namespace DL
open PySem L2 PySem.Spec
def gHd2 : PyData → Option (PyData × PyData)
  | .list [d0, d1, _] => some (d0, d1)
  | _ => none
def sUnal (i j0 j1 : Nat) : Sf := fun e => (gHd2 (e.getD i .none)).bind fun q => some (.nx, (e.set j0 q.1).set j1 q.2)
section
variable {ι : Type} {Xf : ι → Cx} {P : Program} {w : World} {K : PySem.W.Frag} {mg : Str → Option Value} {base : Heap} {n : Nat} [F : Fam Xf P w K mg base n]
variable {M : Mk} {m mn : List Ty} {pos pos' p tpos q0 q1 q2 : Pos} {x x0 x1 x2 : Str} {rest : List Stmt} {g : Sf} {t2 : Ty}
end
section
variable {ι : Type} {Xf : ι → Cx} {P : Program} {w : World} {K : PySem.W.Frag} {mg : Str → Option Value} {base : Heap} {n : Nat} [F : Fam Xf P w K mg base n]
variable {m : List Ty} {pos : Pos} {x : Str} {ts : List Ty} {t : Ty} {v : V}
end
def lAl (j : Nat) (r : Lf) : Lf := fun e => (r e).bind fun p => some (p.2.getD j .none :: p.1, p.2)
section
variable {ι : Type} {Xf : ι → Cx} {P : Program} {w : World} {K : PySem.W.Frag} {mg : Str → Option Value} {base : Heap} {n : Nat} [F : Fam Xf P w K mg base n]
variable {m m2 : List Ty} {p : Pos} {es : List Expr} {fr : Lf} {t : Ty} {tys : List Ty} {L : List (Option Nat)}
end
end DL
namespace DL
open PySem PySem.W PySem.Calls PyProof.Rows
section
variable {prog : Program} {w : World} {A : Around} {E : Value → Shared → Prop} {s : Shared}
end
end DL
namespace DL
open PySem L2 PySem.Spec
section
variable {ι : Type} {Xf : ι → Cx} {P : Program} {w : World} {K : PySem.W.Frag} {mg : Str → Option Value} {base : Heap} {n : Nat} [F : Fam Xf P w K mg base n]
end
end DL
namespace DL
open PySem L2 PySem.Spec PyProof.Rows
section
variable {X : Cx} {e : Expr} {te : TE} {p apos cpos pos : Pos}
end
def gDVals (d : PyData) : Option PyData := match d with
  | .dict kvs => some (.list (kvs.map (·.2)))
  | _ => none
def eDVals (j : Nat) : Ef := fun e => (gDVals (e.getD j .none)).bind fun d => some (d, e)
section
variable {ι : Type} {Xf : ι → Cx} {P : Program} {w : World} {K : PySem.W.Frag} {mg : Str → Option Value} {base : Heap} {n : Nat} [F : Fam Xf P w K mg base n]
variable {m m1 m2 m3 : List Ty} {pos p p2 apos cpos xp : Pos} {a b c : Expr} {f g h : Ef}
end
end DL
namespace DL
open PySem L2 PySem.Spec
def SubT (tw tb : CT) : Prop := ∀ p ∈ tw, tb.lookup p.1 = some p.2
theorem lookup_mem {c : Str} {l : List Str} : ∀ {tw : CT}, tw.lookup c = some l → (c, l) ∈ tw
  | [], h => by cases h
  | (a, k) :: tw, h => by
    rw [List.lookup_cons] at h
    by_cases e : c = a
    · subst e
      simp at h
      subst h
      exact List.mem_cons_self ..
    · rw [show (c == a) = false from by simpa using e] at h
      exact List.mem_cons_of_mem _ (lookup_mem h)
theorem SubT.look {tw tb : CT} (h : SubT tw tb) {c : Str} {l : List Str} (e : tw.lookup c = some l) : tb.lookup c = some l := h _ (lookup_mem e)
def sAsgE (tw : CT) (j : Nat) (f : Ef) : Sf := fun e => (f e).bind fun p => (gIsOk tw p.1).bind fun w => (asB w).bind fun b => if b = true then (gUn p.1).bind fun d => some (.nx, p.2.set j d) else some (.rt p.1, p.2)
def sDropE (tw : CT) (f : Ef) : Sf := fun e => (f e).bind fun p => (gIsOk tw p.1).bind fun w => (asB w).bind fun b => if b = true then some (.nx, p.2) else some (.rt p.1, p.2)
def sRetE (tw : CT) (f : Ef) : Sf := fun e => (f e).bind fun p => (gIsOk tw p.1).bind fun _ => some (.rt p.1, p.2)
def tryR (tb : CT) (j : Nat) (fs : Sf) : Out × En → Option (Out × En)
  | (.rt v, e) => (gIsOk tb v).bind fun w => (asB w).bind fun b => if b = true then (gUn v).bind fun d => some (.rt d, e) else fs (e.set j v)
  | (.nx, e) => some (.nx, e)
  | (.bk, e) => some (.bk, e)
  | (.ct, e) => some (.ct, e)
def tryR0 (tb : CT) (fs : Sf) : Out × En → Option (Out × En)
  | (.rt v, e) => (gIsOk tb v).bind fun w => (asB w).bind fun b => if b = true then (gUn v).bind fun d => some (.rt d, e) else fs e
  | (.nx, e) => some (.nx, e)
  | (.bk, e) => some (.bk, e)
  | (.ct, e) => some (.ct, e)
def sTryB (tb : CT) (j : Nat) (fb fs : Sf) : Sf := fun e => (fb e).bind (tryR tb j fs)
def sTryC (tb : CT) (fb fs : Sf) : Sf := fun e => (fb e).bind (tryR0 tb fs)
theorem dec_in {tw tb : CT} (s : SubT tw tb) {c : Str} {vs : List PyData} {l : List Str} (h : tw.lookup c = some l) (hl : l.length = vs.length) : decR tb (.tuple (.str c :: vs)) = some (.ex c (l.zip vs)) := decR_ex (s.look h) hl
section
variable {tw tG tb : CT} {j : Nat} {Fn : DFn} {fr : Lf}
theorem call_dec {e e9 : En} {v : PyData} {r : Res} (h : eCall Fn fr e = some (v, e9)) (hr : decR tG v = some r) : xCall (decF tG Fn) fr e = some (r, e9) := by
  unfold eCall at h
  obtain ⟨⟨ds, e2⟩, k1, k2⟩ := oBs h
  obtain ⟨⟨v1, fs1⟩, k3, k4⟩ := oBs k2
  injection k4 with k4
  injection k4 with k4 k5
  subst k4 k5
  unfold xCall decF
  rw [k1, Option.bind_some]
  show (((Fn ds).bind fun q => decR tG q.1).bind fun q => some (q, e2)) = _
  rw [k3, Option.bind_some]
  show ((decR tG v1).bind fun q => some (q, e2)) = _
  rw [hr]; rfl
theorem rel_asg (sG : SubT tw tG) (sb : SubT tw tb) (e : En) (r : OutX × En) (h : decX tb (sAsgE tw j (eCall Fn fr)) e = some r) : xAsgX j (xCall (decF tG Fn) fr) e = some r := by
  obtain ⟨⟨o, e1⟩, h1, h2⟩ := oBs h
  obtain ⟨⟨v, ex⟩, h3, h4⟩ := oBs h1
  obtain ⟨w, h5, h6⟩ := oBs h4
  obtain ⟨b, h7, h8⟩ := oBs h6
  rcases isOk_of h5 with ⟨d, hv, rfl⟩ | ⟨c, vs, l, hv, hl1, hl2, rfl⟩
  · have hv : v = .list [d] := hv
    subst hv
    cases h7
    rw [if_pos rfl] at h8
    cases h8
    cases h2
    unfold xAsgX
    rw [call_dec (r := .ok d) h3 rfl]; rfl
  · have hv : v = .tuple (.str c :: vs) := hv
    subst hv
    cases h7
    rw [if_neg (by simp)] at h8
    cases h8
    obtain ⟨r1, h9, h10⟩ := oBs h2
    rw [dec_in sb hl1 hl2] at h9
    cases h9
    cases h10
    unfold xAsgX
    rw [call_dec h3 (dec_in sG hl1 hl2)]; rfl
end
section
variable {K : PySem.W.Frag} {mg : Str → Option Value} {M : Mk} {G H G1 H1 : Hp} {m m1 m2 mn mx ml : List Ty} {W : WX} {σ σ1 : St} {e : En} {A A1 : List Addr} {D : Ends} {e' : En} {t u : TS} {f : Sf} {gf : Gf} {lf : Lf} {tb : CT}
theorem DSX.lex {fx : SfX} (h : DSX K mg M m1 W m t fx mn) (l : LeM m1 mx) : DSX K mg M mx W m t fx mn := by
  intro G H σ e A o e' D st hf k
  refine h st hf ?_
  match o, k with
  | .o x, k => exact k
  | .ex c fs, k =>
    intro G' H' σ' A' cls dx s' st' p' ex
    obtain ⟨G2, A2, s2, st2⟩ := stt_le l st'
    exact k G2 H' σ' A2 cls dx (s'.seq0 s2) st2 p' (ex.mono s2.sg)
theorem DSX.for {wk : Bool} {wi : L2.TI} {tg : TG} {sl : List Nat} (hi : DI K wk m wi lf m1) (l1 : LeM m1 ml) (hg : DG K wk ml tg sl gf m2) (hb : DSX K mg { M with b := mn, c := ml } mx W m2 t (decX tb f) ml) (l2 : LeM ml mn) (hp : ∀ j ∈ M.po, j ∉ sl) :
    DSX K mg M mx W m (tFor wi tg t) (decX tb (sFor lf gf f)) mn := by
  intro G H σ e A oX e' D st hf0 k
  obtain ⟨⟨o, e9⟩, hf, hdec⟩ := oBs hf0
  obtain ⟨⟨ds, e1⟩, hf1, hf⟩ := oBs hf
  refine hi st hf1 fun G1 H1 A1 J s1 st1 wk hz => ?_
  obtain ⟨G2, A2, s2, st2⟩ := stt_le l1 st1
  let T := fun (i : Nat) (σc : St) (Hc : Hp) => ∃ Gc ec A', Step A G H A' Gc Hc ∧ Same G1 Gc ∧ Stt K ml Gc Hc σc ec A' ∧ Pin M.po σ σc ∧ forL gf f (ds.drop i) ec = some (o, e9)
  refine ⟨fun i mm σc Hc => mm = ds.length - i ∧ i ≤ ds.length ∧ T i σc Hc, ⟨ds.length, by omega, Nat.zero_le _, G2, e1, A2, s1.seq0 s2, s2.sg, st2, Pin.refl, hf⟩, ?_⟩
  rintro i mm σc Hc ⟨rfl, hle, Gc, ec, A', sc, sg, stc, pc, hl⟩
  have sub1 : Same G1 Hc := sg.trans stc.sub
  by_cases hi : i < ds.length
  · refine .inr ⟨wk.goes i Hc hi sub1, fun σn Hn => i < ds.length ∧ T (i + 1) σn Hn, fun σn Hn hn => ⟨ds.length - (i + 1), by omega, rfl, by omega, hn.2⟩, fun x Hy hy => ?_⟩
    obtain ⟨Gy, sy, sty, sgy, qy⟩ := wk.yields hi sg stc hy
    have hd : ds.drop i = ds[i] :: ds.drop (i + 1) := List.drop_eq_getElem_cons hi
    rw [hd] at hl
    unfold forL at hl
    obtain ⟨e2, hl1, hl⟩ := oBs hl
    obtain ⟨⟨o3, e3⟩, hl2, hl⟩ := oBs hl
    refine hg sty (qy _ (List.getElem?_eq_getElem hi)) hl1 fun G3 H3 σ3 A3 s3 st3 k3 l3 => ?_
    have p3 : Pin M.po σ σ3 := pc.trans fun j hj => k3 j (hp j hj)
    have s03 := (sc.seq0 sy).seq0 s3
    cases o3 with
    | nx =>
      refine hb (o := .o .nx) (e' := e3) st3 (by unfold decX; rw [hl2]; rfl) ?_
      exact fun G4 H4 σ4 A4 s4 st4 p4 => ⟨hi, G4, e3, A4, s03.seq0 s4, ((sg.trans sgy).trans s3.sg).trans s4.sg, st4, p3.trans p4, hl⟩
    | ct =>
      refine hb (o := .o .ct) (e' := e3) st3 (by unfold decX; rw [hl2]; rfl) ?_
      exact fun G4 H4 σ4 A4 s4 st4 p4 => ⟨hi, G4, e3, A4, s03.seq0 s4, ((sg.trans sgy).trans s3.sg).trans s4.sg, st4, p3.trans p4, hl⟩
    | bk =>
      cases hl
      cases hdec
      refine hb (o := .o .bk) st3 (by unfold decX; rw [hl2]; rfl) ?_
      exact fun G4 H4 σ4 A4 s4 st4 p4 => k G4 H4 σ4 A4 (s03.seq0 s4) st4 (p3.trans p4)
    | rt r =>
      cases hl
      obtain ⟨r1, h9, h10⟩ := oBs hdec
      cases r1 with
      | ok d =>
        cases h10
        refine hb (o := .o (.rt d)) st3 (by unfold decX; rw [hl2]; show ((decR tb r).bind _ : Option (OutX × En)) = _; rw [h9]; rfl) ?_
        exact fun G4 H4 σ4 v Av A4 s4 st4 o4 nd4 p4 => k G4 H4 σ4 v Av A4 (s03.seq0 s4) st4 o4 nd4 (p3.trans p4)
      | ex c fs =>
        cases h10
        refine hb (o := .ex c fs) st3 (by unfold decX; rw [hl2]; show ((decR tb r).bind _ : Option (OutX × En)) = _; rw [h9]; rfl) ?_
        exact fun G4 H4 σ4 A4 cls dx s4 st4 p4 ex => k G4 H4 σ4 A4 cls dx (s03.seq0 s4) st4 (p3.trans p4) ex
  · have hie : i = ds.length := by omega
    subst hie
    rw [List.drop_length] at hl
    cases hl
    cases hdec
    obtain ⟨G4, A4, s4, st4⟩ := stt_le l2 stc
    exact .inl ⟨wk.stops Hc sub1, k G4 Hc σc A4 (sc.seq0 s4) st4 pc⟩
theorem DSX.post {js jr : List Nat} (h : DSX K mg M mx W m t (decX tb f) mn) (o1 : fgOk js mn = true) (o2 : fgOk js M.b = true) (o3 : fgOk js M.c = true) (o4 : fgOk jr M.r = true) (o5 : fgOk jr mx = true) : DSX K mg M mx W m t (decX tb (sPost js jr f)) mn := by
  intro G H σ e A o e' D st hf k
  obtain ⟨⟨oo, ee⟩, hf1, hf⟩ := oBs hf
  obtain ⟨⟨o0, e0⟩, hf2, hf3⟩ := oBs hf1
  simp only [Option.some.injEq, Prod.mk.injEq] at hf3
  obtain ⟨rfl, rfl⟩ := hf3
  cases o0 with
  | nx =>
    cases hf
    refine h (o := .o .nx) (e' := e0) st (by unfold decX; rw [hf2]; rfl) ?_
    exact fun G' H' σ' A' s' st' p' => k G' H' σ' A' s' (stt_fg o1 st') p'
  | bk =>
    cases hf
    refine h (o := .o .bk) (e' := e0) st (by unfold decX; rw [hf2]; rfl) ?_
    exact fun G' H' σ' A' s' st' p' => k G' H' σ' A' s' (stt_fg o2 st') p'
  | ct =>
    cases hf
    refine h (o := .o .ct) (e' := e0) st (by unfold decX; rw [hf2]; rfl) ?_
    exact fun G' H' σ' A' s' st' p' => k G' H' σ' A' s' (stt_fg o3 st') p'
  | rt r =>
    obtain ⟨r1, h9, h10⟩ := oBs hf
    cases r1 with
    | ok d =>
      cases h10
      refine h (o := .o (.rt d)) (e' := e0) st (by unfold decX; rw [hf2]; show ((decR tb r).bind _ : Option (OutX × En)) = _; rw [h9]; rfl) ?_
      exact fun G' H' σ' v Av A' s' st' ov nd p' => k G' H' σ' v Av A' s' (stt_fg o4 st') ov nd p'
    | ex c fs =>
      cases h10
      refine h (o := .ex c fs) (e' := e0) st (by unfold decX; rw [hf2]; show ((decR tb r).bind _ : Option (OutX × En)) = _; rw [h9]; rfl) ?_
      exact fun G' H' σ' A' cls dx s' st' p' ex => k G' H' σ' A' cls dx s' (stt_fg o5 st') p' ex
end
section
variable {ι : Type} {Xf : ι → Cx} {W : WX} {P : Program} {w : World} {K : PySem.W.Frag} {mg : Str → Option Value} {base : Heap} {n : Nat} [F : Fam Xf P w K mg base n]
variable {M : Mk} {m m1 m2 mn mx ml : List Ty} {pos p p2 p3 cp spos np np2 pos' : Pos} {c v a tg iter : Expr} {es : List Expr} {st : Stmt} {rest body orelse suite : List Stmt} {b₀ : Stmt} {f g fb fs : Sf} {gf : Gf} {lf : Lf} {fx gx : SfX} {bf : Bf} {ef : Ef} {fr : Lf} {tys : List Ty} {L : List (Option Nat)} {tb tw tG : CT} {rty ty : Ty} {Fn : DFn} {sl : List Nat}
theorem sx_lex (h : PSX Xf W K mg M m1 m st fx mn) (l : LeM m1 mx) : PSX Xf W K mg M mx m st fx mn := by
  obtain ⟨t, p, d⟩ := h.ex
  exact ⟨t, p, d.lex l⟩
include F in
theorem ex_asgE [FG : FamG Xf] [FT : FamT Xf W] {k : Nat} {x y : Str} (j : Nat) (c : CalX P w K mg base k x tys rty (decF tG Fn)) (sG : SubT tw tG) (sb : SubT tw tb) (ha : PAL Xf K m (a :: es) tys L fr m1) (lx : LeM m1 mx)
    (hst : ∀ t ∈ tys, stb t = true := by decide) (hk : k ≤ n := by decide) (hg : ∀ i, Gl (Xf i) x := by intro _; rfl)
    (hdb : (x == ("__debug__" : Str)) = false := by decide) (he : ∀ i, starEach (a :: es) (Xf i).env = (false, eval a (Xf i).env) :: starEach es (Xf i).env := by intro _; rfl) (hpl : ∀ i, (backTo cp (starEach es (Xf i).env)).any (·.1) = false := by intro _; rfl)
    (hj : j < m1.length := by first | decide | rfl | simp) (hp : j ∉ M.po := by first | decide | rfl | simp) (hi : ∀ i, (Xf i).N[j]? = some y := by intro _; rfl) (hx : ∀ i, Loc (Xf i).env.scope y := by first | (intro _; exact Or.inl rfl) | (intro _; exact Or.inr rfl))
    (hs : ∀ i, swapsWith (.Call (.Name x p3) (a :: es) [] cp) (some (.Name y np)) p2.line (Xf i).env = pure false := by intro _; rfl) (hf : ∀ i, (Xf i).fn y = true ∨ (Xf i).env.scope.names.lookup y = some .local := by first | (intro _; exact Or.inl rfl) | (intro _; exact Or.inr rfl)) :
    PSX Xf W K mg M mx m (.Assign [.Name y np] (.Call (.Name x p3) (a :: es) [] cp) p2) (decX tb (sAsgE tw j (eCall Fn fr))) (m1.set j rty) :=
  sx_mono (sx_lex (sx_asg j (px_call c ha hst hk hg hdb he hpl) hj hp hi hx hs hf) lx) (rel_asg sG sb)
include F in
theorem ex_for [FG : FamG Xf] {wk : Bool} [FN : FamN Xf] (ml : List Ty) (hi : PIt Xf K wk m tg iter lf m1) (l1 : LeM m1 ml) (hg : PGD Xf K wk ml tg sl gf m2) (hb : PSXs Xf W K mg { M with b := mn, c := ml } mx m2 body (decX tb f) ml) (l2 : LeM ml mn) (hp : ∀ j ∈ M.po, j ∉ sl := by first | decide | rfl | simp)
    (hs : ∀ i x, foldedSetIterable iter (Xf i).env x = pure x := by intro _ _; rfl) : PSX Xf W K mg M mx m (.For tg iter body [] pos) (decX tb (sFor lf gf f)) mn := by
  obtain ⟨wi, pi, di⟩ := hi.ex
  obtain ⟨g, pg, dg⟩ := hg.ex
  obtain ⟨t, p, d⟩ := hb.ex
  exact ⟨_, fun i => ps_for (FN.ps i) (FG.calm i) (pi i) (pg i) (p i) (hs i), DSX.for di l1 dg d l2 hp⟩
theorem exs_post (js jr : List Nat) (h : PSXs Xf W K mg M mx m body (decX tb f) mn) (o1 : fgOk js mn = true := by first | decide | rfl | simp) (o2 : fgOk js M.b = true := by first | decide | rfl | simp) (o3 : fgOk js M.c = true := by first | decide | rfl | simp) (o4 : fgOk jr M.r = true := by first | decide | rfl | simp) (o5 : fgOk jr mx = true := by first | decide | rfl | simp) : PSXs Xf W K mg M mx m body (decX tb (sPost js jr f)) mn := by
  obtain ⟨t, p, d⟩ := h.ex
  exact ⟨t, p, d.post o1 o2 o3 o4 o5⟩
end
section
variable {ι : Type} {Xf : ι → Cx} {P : Program} {w : World} {K : PySem.W.Frag} {mg : Str → Option Value} {base : Heap} {n : Nat} [F : Fam Xf P w K mg base n]
variable {M : Mk} {m mn mx : List Ty} {pos pos' np2 : Pos} {x nm : Str} {cx : Value} {body suite : List Stmt} {b₀ : Stmt} {fb fs : Sf}
include F in
theorem ds_tryB (tb : CT) (j : Nat) (hm : mg x = some cx) (hc : Cat K mg tb cx) (hb : ∀ W : WX, PSXs (tryF Xf W) W K mg M mx m body (decX tb fb) mn) (hsu : Suit Xf K mg M tb mx j (b₀ :: suite) fs mn)
    (hj : j < mx.length := by first | decide | rfl | simp) (hp : j ∉ M.po := by first | decide | rfl | simp) (un : uAt mn j = true := by rfl) (ub : uAt M.b j = true := by rfl) (uc : uAt M.c j = true := by rfl)
    (hN : ∀ i, (Xf i).N[j]? = some nm := by intro _; rfl) (hln : ∀ i, (Xf i).env.kindOf nm = some .local := by intro _; rfl)
    (hs : ∀ i, (Xf i).stack = (Xf i).env :: (Xf i).outer := by intro _; rfl) (hf : ∀ i, (Xf i).env.frame = some (Xf i).env.locals := by intro _; rfl) (hg : ∀ i, Gl (Xf i) x := by intro _; rfl) (hdb : (x == ("__debug__" : Str)) = false := by decide) :
    PSd Xf K M m (.Try body [.ExceptHandler (some (.Name x np2)) (some nm) (b₀ :: suite) pos'] [] [] pos) (sTryB tb j fb fs) mn :=
  ds_imp (ds_tryA tb j hm hc hb hsu hj hp un ub uc hN hln hs hf hg hdb) fun e r h => by
    obtain ⟨⟨o, e1⟩, h1, h2⟩ := oBs h
    unfold sTryA decX
    rw [h1]
    cases o with
    | nx => exact h2
    | bk => exact h2
    | ct => exact h2
    | rt v =>
      obtain ⟨w, h5, h6⟩ := oBs h2
      obtain ⟨b, h7, h8⟩ := oBs h6
      rcases isOk_of h5 with ⟨d, hv, rfl⟩ | ⟨c, vs, l, hv, hl1, hl2, rfl⟩
      · subst hv
        cases h7
        rw [if_pos rfl] at h8
        exact h8
      · subst hv
        cases h7
        rw [if_neg (by simp)] at h8
        show (((decR tb (.tuple (.str c :: vs))).bind _ : Option (OutX × En))).bind _ = _
        rw [decR_ex hl1 hl2]
        show (if tb.lookup c = some ((l.zip vs).map (·.1)) then fs (e1.set j (.tuple (.str c :: (l.zip vs).map (·.2)))) else none) = _
        rw [zip_fst hl2, zip_snd hl2, if_pos hl1]
        exact h8
end
end DL
namespace DL
end DL
namespace DL
open PySem L2 PySem.Spec
def flatD : List PyData → Option (List PyData)
  | [] => some []
  | d :: ds => (seqD d).bind fun xs => (flatD ds).bind fun ys => some (xs ++ ys)
def gFlat (d : PyData) : Option PyData := (seqD d).bind fun ds => (flatD ds).bind fun ys => if ys.length ≤ sizeLine then some (.list ys) else none
theorem flat_snoc : ∀ {ds : List PyData} {d : PyData} {ys xs : List PyData}, flatD ds = some ys → seqD d = some xs → flatD (ds ++ [d]) = some (ys ++ xs)
  | [], d, ys, xs, h, h2 => by
    cases h
    show (seqD d).bind _ = _
    rw [h2]
    show some (xs ++ []) = some ([] ++ xs)
    rw [List.append_nil, List.nil_append]
  | c :: ds, d, ys, xs, h, h2 => by
    obtain ⟨cs, h3, h4⟩ := oBs h
    obtain ⟨zs, h5, h6⟩ := oBs h4
    cases h6
    have := flat_snoc h5 h2
    show (seqD c).bind _ = _
    rw [h3, Option.bind_some]
    show (flatD (ds ++ [d])).bind _ = _
    rw [this, Option.bind_some, List.append_assoc]
theorem flat_some : ∀ {ds ys : List PyData} {i : Nat}, flatD ds = some ys → i < ds.length → ∃ xs, seqD (ds[i]?.getD .none) = some xs
  | d :: ds, ys, 0, h, _ => by
    obtain ⟨cs, h3, _⟩ := oBs h
    exact ⟨cs, h3⟩
  | d :: ds, ys, i + 1, h, hi => by
    obtain ⟨cs, h3, h4⟩ := oBs h
    obtain ⟨zs, h5, _⟩ := oBs h4
    have := flat_some h5 (show i < ds.length by simpa using hi)
    simpa using this
theorem flat_cut : ∀ {ds ys : List PyData} (i : Nat), flatD ds = some ys → ∃ zs, flatD (ds.take i) = some zs ∧ zs.length ≤ ys.length
  | ds, ys, 0, h => ⟨[], rfl, Nat.zero_le _⟩
  | [], ys, i + 1, h => ⟨ys, h, Nat.le_refl _⟩
  | d :: ds, ys, i + 1, h => by
    obtain ⟨cs, h3, h4⟩ := oBs h
    obtain ⟨zs, h5, h6⟩ := oBs h4
    cases h6
    obtain ⟨ws, h7, h8⟩ := flat_cut i h5
    refine ⟨cs ++ ws, ?_, by simp only [List.length_append]; omega⟩
    show (seqD d).bind _ = _
    rw [h3, Option.bind_some]
    show (flatD (ds.take i)).bind _ = _
    rw [h7]; rfl
def Agr (vs : List Nat) (a b : En) : Prop := a.length = b.length ∧ ∀ k, k ∉ vs → a[k]? = b[k]?
theorem Agr.set {vs : List Nat} {a b : En} {v : Nat} {d : PyData} (h : Agr vs a b) (hv : v ∈ vs) : Agr vs (a.set v d) b :=
  ⟨by rw [List.length_set]; exact h.1, fun k hk => by rw [List.getElem?_set_ne fun z => hk (by rw [← z]; exact hv)]; exact h.2 k hk⟩
theorem Agr.rest {vs : List Nat} {a b : En} (h : Agr vs a b) : restE b a vs = b := by
  induction vs generalizing a with
  | nil => exact List.ext_getElem? fun k => h.2 k (by simp)
  | cons v vs ih =>
    unfold restE
    refine ih ⟨by rw [List.length_set]; exact h.1, fun k hk => ?_⟩
    by_cases c : v = k
    · subst c
      rw [List.getElem?_set]
      by_cases l : v < a.length
      · rw [if_pos rfl, if_pos l, List.getD_eq_getElem?_getD, List.getElem?_eq_getElem (by rw [← h.1]; exact l)]; rfl
      · rw [if_pos rfl, if_neg l, List.getElem?_eq_none (by rw [← h.1]; omega)]
    · rw [List.getElem?_set_ne c]
      exact h.2 k fun z => by
        rcases List.mem_cons.mp z with z | z
        · exact c z.symm
        · exact hk z
section
variable {K : PySem.W.Frag} {G H : Hp} {m m1 m2 : List Ty}
theorem rest_next {vs : List Nat} {σ σ3 : St} {ec e5 : En} {A5 : List Addr} (le : LeM m2 (hideM m1 vs)) (us : usB m1 vs = true) (ws : wipe σ3 vs = wipe σ vs) (st5 : Stt K m2 G H σ3 e5 A5) :
    ∃ G6 A6, Step A5 G H A6 G6 H ∧ Stt K (hideM m1 vs) G6 H (wipe σ vs) (restE ec e5 vs) A6 := by
  obtain ⟨G6, A6, s6, st6⟩ := stt_le le st5
  refine ⟨G6, A6, s6, ⟨?_, st6.nd, st6.sub⟩⟩
  have hidem : ∀ (us : List Nat) (e' : En) (σ' : St) {A : List Addr} {H : Hp} {G : Hp} {mm : List Ty}, OwnA K G H mm e' σ' A → (∀ v ∈ us, mm[v]? = some .u) → OwnA K G H mm (restE ec e' us) (wipe σ' us) A := by
    intro us
    induction us with
    | nil => intro e' σ' A H G mm h _; exact h
    | cons v us ih =>
      intro e' σ' A H G mm h hu
      unfold restE wipe
      have hv := hu v (List.mem_cons_self ..)
      have a := ownA_set0 (t := .u) (d := ec.getD v .none) (v := none) h (.inl hv) (.u _ _)
      rw [set_id hv] at a
      have b := ih _ _ a fun x hx => hu x (List.mem_cons_of_mem _ hx)
      have c : wipe (σ'.set v none) us = (wipe σ' us).set v none := by
        clear ih a b hv hu h
        induction us with
        | nil => rfl
        | cons u us ihu =>
          unfold wipe
          rw [ihu]
          by_cases q : u = v
          · subst q; rfl
          · rw [List.set_comm _ _ (fun z => q z.symm)]
      rw [c] at b; exact b
  have hu : ∀ v ∈ vs, (hideM m1 vs)[v]? = some .u := by
    have aux : ∀ us : List Nat, usB m1 us = true → ∀ v ∈ us, (hideM m1 us)[v]? = some .u := by
      intro us
      induction us with
      | nil => intro _ v h; cases h
      | cons u us ih =>
        intro hus v hv
        obtain ⟨h1, h2, h3⟩ := us_cons hus
        unfold hideM
        by_cases q : u = v
        · subst q
          have : u < (hideM m1 us).length := by
            rw [← hideM_get (m := m1) h2] at h1
            rcases h1 with z | z <;> exact (List.getElem?_eq_some_iff.mp z).1
          simp [this]
        · rw [List.getElem?_set_ne q]
          rcases List.mem_cons.mp hv with z | z
          · exact absurd z.symm q
          · exact ih h3 v z
    exact aux vs us
  have := hidem vs e5 σ3 st6.own hu
  rw [ws] at this
  exact this
end
theorem Agr.rest2 {vs ws : List Nat} {a b c : En} (h : Agr ws a c) (hb : Agr ws b c) (sub : ∀ v ∈ vs, v ∈ ws) : Agr ws (restE b a vs) c := by
  induction vs generalizing a with
  | nil => exact h
  | cons v vs ih => exact ih (h.set (sub v (List.mem_cons_self ..))) fun x hx => sub x (List.mem_cons_of_mem _ hx)
theorem DE.flat {K : PySem.W.Frag} {m m1 : List Ty} {wk : Bool} {wi wi1 : L2.TI} {g g1 : TG} {tt tt1 : TT} {te : TE} {f : Ef} {j0 j1 : Nat} {ml mi : List Ty} (hi : DI K wk m wi (iSeq f) m1)
    (hm2 : hideM m1 [j0, j1] = ml) (hg : DG K wk ml g [j0] (gNm j0) (ml.set j0 .s)) (ht : DT K (ml.set j0 .s) tt bYes (ml.set j0 .s)) (hi1 : DI K false (ml.set j0 .s) wi1 (iSeq (eVar j0)) (ml.set j0 .s))
    (hmi : hideM (ml.set j0 .s) [j1] = mi) (hg1 : DG K false mi g1 [j1] (gNm j1) (mi.set j1 .s)) (ht1 : DT K (mi.set j1 .s) tt1 bYes (mi.set j1 .s)) (he : DE K (mi.set j1 .s) te .s (eVar j1) (mi.set j1 .s))
    (us : usB m1 [j0, j1] = true) (us1 : usB (ml.set j0 .s) [j1] = true) (l1 : LeM (mi.set j1 .s) (hideM (ml.set j0 .s) [j1])) (l0 : LeM mi (hideM m1 [j0, j1])) (hj0 : j0 < m1.length) (hj1 : j1 < m1.length) :
    DE K m (tLc2 wi g tt wi1 g1 tt1 te [j0, j1] [j1]) (.l .s) (e1 gFlat f) m1 := by
  intro G H σ e A d e' Q st hf k
  unfold e1 at hf
  obtain ⟨⟨d1, e1⟩, hf1, hf⟩ := oBs hf
  obtain ⟨r0, hf2, hf⟩ := oBs hf
  cases hf
  unfold gFlat at hf2
  obtain ⟨ds, hds, hf2⟩ := oBs hf2
  obtain ⟨ys, hys, hf2⟩ := oBs hf2
  obtain ⟨hyl, rfl⟩ := ite_some hf2
  refine hi st (show iSeq f e = some (ds, e1) by unfold iSeq; rw [hf1]; show (seqD d1).bind _ = _; rw [hds]; rfl) fun G1 H1 A1 J s1 st1 wkJ hz => ?_
  intro D hD
  have st1' : Stt K (hideM m1 [j0, j1]) G1 H1 (wipe σ [j0, j1]) e1 A1 := ⟨wipeA st1.own us, st1.nd, st1.sub⟩
  obtain ⟨s2, st2, nd2, gD⟩ := new_o (o := .lst []) (B := []) st1' hD
  have len1 : e1.length = m1.length := (ownA_len st1.own).1.symm
  let T := fun (i : Nat) (Hc : Hp) => ∃ Gc ec A' acc da, LcI K (hideM m1 [j0, j1]) .s A1 G1 H1 D (wipe σ [j0, j1]) Gc Hc ec A' [] acc da ∧ flatD (ds.take i) = some da ∧ Agr [j0, j1] ec e1
  refine ⟨fun i mm Hc => mm = ds.length - i ∧ i ≤ ds.length ∧ T i Hc, ⟨ds.length, by omega, Nat.zero_le _, G1, e1, A1, [], [], ⟨s2, st2, upd_same, gD, .nil, nd2⟩, rfl, rfl, fun k _ => rfl⟩, ?_⟩
  rintro i mm Hc ⟨rfl, hle, Gc, ec, A', acc, da, I, hda, agr⟩
  have sub1 : Same G1 Hc := I.step.sg.trans I.st.sub
  by_cases hi' : i < ds.length
  · refine .inr ⟨wkJ.goes i Hc hi' sub1, fun Hn => i < ds.length ∧ T (i + 1) Hn, fun Hn hn => ⟨ds.length - (i + 1), by omega, rfl, by omega, hn.2⟩, fun x Hy hy => ?_⟩
    obtain ⟨Gy, sy, sty, sgy, qy⟩ := wkJ.yields hi' I.step.sg I.st hy
    have sty' : Stt K ml Gy Hy (wipe σ [j0, j1]) ec A' := by rw [← hm2]; exact sty
    obtain ⟨xs, hxs⟩ := flat_some hys hi'
    rw [List.getElem?_eq_getElem hi'] at hxs
    have hxs : seqD ds[i] = some xs := hxs
    refine hg sty' (qy _ (List.getElem?_eq_getElem hi')) rfl fun G3 H3 σ3 A3 s3 st3 k3 l3 => ⟨wipe_eq (fun j hj => by simp at hj; simp [hj]) k3 l3, ?_⟩
    have wσ : wipe σ3 [j0, j1] = wipe σ [j0, j1] := wipe_eq (fun j hj => by simp at hj; simp [hj]) k3 l3
    refine ht st3 rfl fun G4 H4 A4 s4 st4 => ?_
    rw [if_pos rfl]
    have lec : j0 < ec.length := by rw [agr.1, len1]; exact hj0
    have hv : iSeq (eVar j0) (ec.set j0 ds[i]) = some (xs, ec.set j0 ds[i]) := by
      show ((some ((ec.set j0 ds[i]).getD j0 .none, ec.set j0 ds[i])).bind fun p => (seqD p.1).bind fun l => some (l, p.2)) = _
      rw [Option.bind_some, List.getD_eq_getElem?_getD, List.getElem?_set_self lec]
      show (seqD ds[i]).bind _ = _
      rw [hxs]; rfl
    refine hi1 st4 hv fun G5 H5 A5 J1 s5 st5 wk1 hz1 => ?_
    have s35 := ((sy.seq0 s3).seq0 s4).seq0 s5
    obtain ⟨s6, nd6, atD6, gD6, own6⟩ := I.move s35 st5.nd
    have st6 : Stt K (hideM (ml.set j0 .s) [j1]) G5 H5 (wipe σ3 [j1]) (ec.set j0 ds[i]) A5 := ⟨wipeA st5.own us1, st5.nd, st5.sub⟩
    have agr0 : Agr [j0, j1] (ec.set j0 ds[i]) e1 := agr.set (by simp)
    have snoc := flat_snoc hda hxs
    rw [← List.take_succ_eq_append_getElem hi'] at snoc
    have cut := flat_cut (i + 1) hys
    rw [snoc] at cut
    obtain ⟨zs, hzs, hzl⟩ := cut
    cases hzs
    rw [List.length_append] at hzl
    let T1 := fun (j : Nat) (Hc : Hp) => ∃ Gc ec1 A' acc1, LcI K (hideM (ml.set j0 .s) [j1]) .s A1 G1 H1 D (wipe σ3 [j1]) Gc Hc ec1 A' [] acc1 (da ++ xs.take j) ∧ Agr [j0, j1] ec1 e1 ∧ Same G5 Gc
    refine ⟨fun j kk Hc => kk = xs.length - j ∧ j ≤ xs.length ∧ T1 j Hc, ⟨xs.length, by omega, Nat.zero_le _, G5, ec.set j0 ds[i], A5, acc, ⟨s6, st6, atD6, gD6, by rw [List.take_zero, List.append_nil]; exact own6, nd6⟩, agr0, Same.refl _⟩, ?_⟩
    rintro j kk Hc1 ⟨rfl, hle1, Gc1, ec1, A'1, acc1, I1, agr1, sg1⟩
    by_cases hj : j < xs.length
    · refine .inr ⟨wk1.goes j Hc1 hj (sg1.trans I1.st.sub), fun Hn => j < xs.length ∧ T1 (j + 1) Hn, fun Hn hn => ⟨xs.length - (j + 1), by omega, rfl, by omega, hn.2⟩, fun y Hy1 hy1 => ?_⟩
      obtain ⟨Gy1, sy1, sty1, sgy1, qy1⟩ := wk1.yields hj sg1 I1.st hy1
      have sty1' : Stt K mi Gy1 Hy1 (wipe σ3 [j1]) ec1 A'1 := by rw [← hmi]; exact sty1
      refine hg1 sty1' (qy1 _ (List.getElem?_eq_getElem hj)) rfl fun G7 H7 σ7 A7 s7 st7 k7 l7 => ⟨wipe_eq (fun j hj => hj) k7 l7, ?_⟩
      have wσ7 : wipe σ7 [j1] = wipe σ3 [j1] := wipe_eq (fun j hj => hj) k7 l7
      refine ht1 st7 rfl fun G8 H8 A8 s8 st8 => ?_
      rw [if_pos rfl]
      have lec1 : j1 < ec1.length := by rw [agr1.1, len1]; exact hj1
      have hv1 : eVar j1 (ec1.set j1 xs[j]) = some (xs[j], ec1.set j1 xs[j]) := by
        show some ((ec1.set j1 xs[j]).getD j1 .none, ec1.set j1 xs[j]) = _
        rw [List.getD_eq_getElem?_getD, List.getElem?_set_self lec1]; rfl
      refine he st8 hv1 fun G9 H9 v Av A9 s9 st9 o9 nd9 => ?_
      cases o9 with
      | s q9 =>
        obtain ⟨G10, A10, s10, st10⟩ := rest_next (ec := ec1) l1 us1 wσ7 st9
        have s79 := ((sy1.seq0 s7).seq0 s8).seq0 (s9.seq0 s10)
        obtain ⟨sX, ndX, atX, gX, ownX⟩ := I1.move s79 st10.nd
        have hacc : acc1.length = (da ++ xs.take j).length := by have := (ownA_len I1.own).2; simpa using this
        have hz' : acc1.length < sizeLine := by
          rw [hacc, List.length_append, List.length_take]; omega
        refine ⟨acc1, atX, hz', hj, G10, restE ec1 (ec1.set j1 xs[j]) [j1], A10, acc1 ++ [v], ?_, Agr.rest2 (agr1.set (by simp)) agr1 (fun v hv => by simp at hv; simp [hv]), ((sg1.trans sgy1).trans (s7.sg.trans s8.sg)).trans (s9.sg.trans s10.sg)⟩
        have nD : ∀ a ∈ A10, a ≠ D := fun a ha z => (List.nodup_cons.mp ndX).1 (z ▸ ha)
        have frD : ∀ a, a ≠ D → upd H9 D (.lst (acc1 ++ [v])) a = H9 a := fun a ha => upd_ne ha
        refine ⟨⟨sX.sg, fun a o h ha => ?_, sX.own, sX.gnew⟩, ⟨ownA_fr st10.own (Same.refl _) (fun a ha => (ownA_at st10.own a ha).1) fun a ha => frD a (nD a ha), st10.nd, fun b x hx => ?_⟩, upd_same, gX, ?_, ndX⟩
        · rw [frD a (ne_of_none h hD)]; exact sX.fr a o h ha
        · rw [frD b (ne_of_none hx gX)]; exact st10.sub b x hx
        · have a1 : OwnA K G10 (upd H9 D (.lst (acc1 ++ [v]))) (List.replicate (da ++ xs.take j).length .s) (da ++ xs.take j) (acc1.map some) [] := ownA_fr ownX (Same.refl _) (fun a ha => by cases ha) fun a ha => by cases ha
          have a2 : Own K G10 (upd H9 D (.lst (acc1 ++ [v]))) .s xs[j] (some v) [] := .s (q9.mono s10.sg)
          have a3 := ownA_snoc a1 a2
          have eda : da ++ xs.take (j + 1) = (da ++ xs.take j) ++ [xs[j]] := by rw [List.take_succ_eq_append_getElem hj, List.append_assoc]
          rw [eda, List.length_append, List.length_singleton, List.replicate_succ', List.map_append]
          exact a3
    · have hje : j = xs.length := by omega
      subst hje
      refine .inl ⟨wk1.stops Hc1 (sg1.trans I1.st.sub), hi', ?_⟩
      have own1 : Stt K mi Gc1 Hc1 (wipe σ3 [j1]) ec1 A'1 := by rw [← hmi]; exact I1.st
      have ww : wipe (wipe σ3 [j1]) [j0, j1] = wipe σ [j0, j1] := by
        rw [← wσ]
        show (((σ3.set j1 none).set j1 none).set j0 none) = ((σ3.set j1 none).set j0 none)
        rw [List.set_set]
      obtain ⟨G11, A11, s11, st11⟩ := rest_next (ec := ec1) l0 us ww own1
      obtain ⟨sX, ndX, atX, gX, ownX⟩ := I1.move s11 st11.nd
      rw [List.take_length] at ownX
      refine ⟨G11, restE ec1 ec1 [j0, j1], A11, acc1, da ++ xs, ⟨sX, st11, atX, gX, ownX, ndX⟩, snoc, Agr.rest2 agr1 agr1 fun v hv => hv⟩
  · have hie : i = ds.length := by omega
    subst hie
    refine .inl ⟨wkJ.stops Hc sub1, ?_⟩
    rw [List.take_length, hys] at hda
    cases hda
    have un := unwipeA (e' := ec) st1.own I.step.sg us I.st.own
    rw [agr.rest] at un
    refine k Gc Hc (.ref D) [D] A' (s1.seq0 ⟨I.step.sg, I.step.fr, I.step.own, I.step.gnew⟩) ⟨un, I.st.nd, I.st.sub⟩ (.l I.gD I.atD ?_ I.own) I.nd
    have hacc := (ownA_len I.own).2
    rw [List.length_map] at hacc
    omega
section
variable {ι : Type} {Xf : ι → Cx} {P : Program} {w : World} {K : PySem.W.Frag} {mg : Str → Option Value} {base : Heap} {n : Nat} [F : Fam Xf P w K mg base n]
variable {m m1 : List Ty} {pos p0 p1 p2 p3 : Pos} {iter : Expr} {scope : Scope} {f : Ef} {x0 x1 : Str} {j0 j1 : Nat}
end
end DL
namespace DL
open PySem L2 PySem.Spec
def sc1 : PyData → Bool
  | .none => true
  | .bool _ => true
  | .int _ => true
  | .str _ => true
  | _ => false
def flat1 : PyData → Bool
  | .tuple xs => xs.all sc1
  | d => sc1 d
def eThaw (f : Ef) : Ef := fun e => (f e).bind fun p => (grd (flat1 p.1)).bind fun _ => some p
def PureE (f : Ef) : Prop := ∀ e d e', f e = some (d, e') → e' = e
def PureL (f : Lf) : Prop := ∀ e d e', f e = some (d, e') → e' = e
section
variable {f g h : Ef} {fb gb : Bf} {fl gl : Lf} {fo go : Of} {gf : Gf} {gs : Gsf} {vs : List Nat} {fq gq : Gq}
theorem pure_var {j : Nat} : PureE (eVar j) := fun e d e' h => by cases h; rfl
theorem purel_nil : PureL lNil := fun e d e' h => by cases h; rfl
theorem purel_cons (h : PureE f) (k : PureL fl) : PureL (lCons f fl) := fun e d e' hh => by
  obtain ⟨⟨a, ea⟩, h1, h2⟩ := oBs hh
  obtain ⟨⟨b, eb⟩, h3, h4⟩ := oBs h2
  cases h4
  have z1 := h _ _ _ h1
  have z2 := k _ _ _ h3
  rw [z2, z1]
theorem pure_call {Fn : DFn} (h : PureL fl) : PureE (eCall Fn fl) := fun e d e' hh => by
  obtain ⟨⟨a, ea⟩, h1, h2⟩ := oBs hh
  obtain ⟨q, _, h3⟩ := oBs h2
  cases h3
  exact h _ _ _ h1
theorem Agr.refl {vs : List Nat} {a : En} : Agr vs a a := ⟨rfl, fun _ _ => rfl⟩
theorem Agr.trans {vs : List Nat} {a b c : En} (h : Agr vs a b) (k : Agr vs b c) : Agr vs a c := ⟨h.1.trans k.1, fun j hj => (h.2 j hj).trans (k.2 j hj)⟩
end
section
variable {K : PySem.W.Frag} {G G' H H' : Hp}
end
def bTrue : Bf := fun e => some (true, e)
end DL
namespace DL
open PySem L2 PySem.Spec
def gAugS (l i y : PyData) : Option PyData := match l, i, y with
  | .list ds, .int k, .int y => (ixN ds.length k).bind fun j => match ds[j]? with
    | some (.int x) => if 0 ≤ k then some (.list (ds.set j (.int (x + y)))) else none
    | _ => none
  | _, _, _ => none
def sAugS (g : Gq) (pt : Pf) (gi gv : Gq) : Sf := fun e => (g e).bind fun d => (gi e).bind fun i => (gv e).bind fun v => (gAugS d i v).bind fun l => some (.nx, pt e l)
section
variable {K : PySem.W.Frag} {G H G1 H1 : Hp} {m m1 m2 mn : List Ty} {σ : St} {e : En} {A A1 : List Addr} {t : Ty} {ts : List Ty} {M : Mk}
end
section
variable {ι : Type} {Xf : ι → Cx} {P : Program} {w : World} {K : PySem.W.Frag} {mg : Str → Option Value} {base : Heap} {n : Nat} [F : Fam Xf P w K mg base n]
variable {M : Mk} {m m1 m2 mn ml : List Ty} {pos p p2 spos apos cpos : Pos} {a b c v o i : Expr} {f : Ef} {g gi gv : Gq} {pt : Pf} {t ty : Ty} {ts : List Ty}
end
end DL
namespace DL
open PySem L2 PySem.Spec
def joinK (more kvs : List (Key × V)) : List (Key × V) := more.foldl (fun acc p => putK acc p.1 p.2) kvs
theorem join_len : ∀ (more kvs : List (Key × V)), (joinK more kvs).length ≤ kvs.length + more.length
  | [], kvs => Nat.le_refl _
  | p :: more, kvs => by
    have h1 := join_len more (putK kvs p.1 p.2)
    have h2 := length_putK kvs p.1 p.2
    show (joinK more (putK kvs p.1 p.2)).length ≤ _
    rw [List.length_cons]; omega
def joinI {α : Type} (more kvs : List (Int × α)) : List (Int × α) := more.foldl (fun acc p => putI acc p.1 p.2) kvs
def yesI {α : Type} (is : List Int) (t : α) : List (Int × α) := is.foldl (fun acc i => putI acc i t) []
def dictI : List (PyData × PyData) → Option (List (Int × PyData))
  | [] => some []
  | (.int i, d) :: r => (dictI r).map ((i, d) :: ·)
  | _ :: _ => none
def gUpdT (d s : PyData) : Option PyData := match d, s with
  | .dict kvs, .tuple xs => (dictI kvs).bind fun ds => (intsOf xs).bind fun is => if kvs.length + is.length < 100000 then some (.dict ((joinI (yesI is (.bool true)) ds).map kvD)) else none
  | _, _ => none
def eUpdT (j : Nat) (f : Ef) : Ef := fun e => (f e).bind fun p => (gUpdT (p.2.getD j .none) p.1).bind fun d => some (.none, p.2.set j d)
section
variable {K : PySem.W.Frag} {G H G1 H1 : Hp} {m m1 m2 mn : List Ty} {σ : St} {e : En} {A A1 : List Addr} {t : Ty} {ts : List Ty}
end
section
variable {ι : Type} {Xf : ι → Cx} {P : Program} {w : World} {K : PySem.W.Frag} {mg : Str → Option Value} {base : Heap} {n : Nat} [F : Fam Xf P w K mg base n]
variable {m m1 m2 m3 : List Ty} {pos p p2 apos cpos xp kp vp tp : Pos} {a b c e : Expr} {f g h : Ef} {scope : Scope} {jn : Option String}
end
end DL
namespace DL
open PySem L2 PySem.Spec
section
variable {K : PySem.W.Frag} {m m1 : List Ty} {M : Mk} {lf : Lf}
end
section
variable {ι : Type} {Xf : ι → Cx} {P : Program} {w : World} {K : PySem.W.Frag} {mg : Str → Option Value} {base : Heap} {n : Nat} [F : Fam Xf P w K mg base n]
variable {M : Mk} {m m1 m2 : List Ty} {pos p p2 apos cpos xp : Pos} {a b c : Expr} {f g h : Ef} {lf : Lf} {t1 t2 : Ty}
end
def eExtV (j l : Nat) : Ef := fun e => (gExt (e.getD j .none) (e.getD l .none)).bind fun d => some (.none, e.set j d)
section
variable {K : PySem.W.Frag} {m : List Ty}
end
section
variable {ι : Type} {Xf : ι → Cx} {P : Program} {w : World} {K : PySem.W.Frag} {mg : Str → Option Value} {base : Heap} {n : Nat} [F : Fam Xf P w K mg base n]
variable {m m1 : List Ty} {pos p p2 apos cpos xp yp : Pos}
end
end DL
namespace DL
open PySem L2 PySem.Spec
abbrev KT3 := List Int × Addr × V
section
variable {X : Cx} {pins : List (Addr × Obj)} {σ : St} {H : Hp} {s : Shared} {a b : Addr} {kvs : List KT3} {k : List Int} {A : Around} {E : Value → Shared → Prop}
end
end DL
namespace DL
open PySem L2 PySem.Spec
section
variable {X : Cx} {o i value : Expr} {td ty tv : TE} {pos pos' : Pos}
end
def isKT (k : List Int) : PyData → Bool
  | .tuple xs => decide (intsOf xs = some k)
  | _ => false
def lookT (kvs : List (PyData × PyData)) (k : List Int) : Option PyData := (kvs.find? fun p => isKT k p.1).map (·.2)
def putTD (kvs : List (PyData × PyData)) (k : List Int) (x : PyData) : List (PyData × PyData) :=
  if (kvs.any fun p => isKT k p.1) = true then kvs.map (fun p => if isKT k p.1 = true then (p.1, x) else p) else kvs ++ [(.tuple (k.map .int), x)]
def gTGet (d k : PyData) : Option PyData := match d, k with
  | .dict kvs, .tuple xs => (intsOf xs).bind fun is => lookT kvs is
  | _, _ => none
def gTIn (n : Bool) (d k : PyData) : Option PyData := match d, k with
  | .dict kvs, .tuple xs => (intsOf xs).bind fun is => some (.bool (n != (lookT kvs is).isSome))
  | _, _ => none
def gTPut (d k x : PyData) : Option PyData := match d, k with
  | .dict kvs, .tuple xs => (intsOf xs).bind fun is => if kvs.length < sizeLine then some (.dict (putTD kvs is x)) else none
  | _, _ => none
section
variable {K : PySem.W.Frag} {G H G1 H1 : Hp} {m m1 m2 mn : List Ty} {σ : St} {e : En} {A A1 : List Addr}
end
def eTGet (j : Nat) (f : Ef) : Ef := fun e => (f e).bind fun p => (gTGet (p.2.getD j .none) p.1).bind fun d => some (d, p.2)
def sTPutD (j : Nat) (fi fv : Ef) : Sf := fun e => (fv e).bind fun p => (fi p.2).bind fun q => (gTPut (q.2.getD j .none) q.1 p.1).bind fun d => some (.nx, q.2.set j d)
section
variable {ι : Type} {Xf : ι → Cx} {P : Program} {w : World} {K : PySem.W.Frag} {mg : Str → Option Value} {base : Heap} {n : Nat} [F : Fam Xf P w K mg base n]
variable {M : Mk} {m m1 m2 m3 : List Ty} {pos p p2 spos pos' apos cpos xp : Pos} {a b c : Expr} {f g h : Ef}
end
end DL
namespace DL
open PySem L2 PySem.Spec
section
variable {ι : Type} {Xf : ι → Cx} {P : Program} {w : World} {K : PySem.W.Frag} {mg : Str → Option Value} {base : Heap} {n : Nat} [F : Fam Xf P w K mg base n]
variable {M : Mk} {m m1 m2 m3 : List Ty} {pos p p2 spos pos' apos cpos xp : Pos} {a b c : Expr} {f g h : Ef}
def gTOne (k v : PyData) : Option PyData := match k with
  | .tuple xs => (intsOf xs).bind fun is => some (.dict [(.tuple (is.map .int), v)])
  | _ => none
def eTOne (f g : Ef) : Ef := fun e => (f e).bind fun p => (g p.2).bind fun q => (gTOne p.1 q.1).bind fun d => some (d, q.2)
def eTInE (ng : Bool) (f g : Ef) : Ef := fun e => (f e).bind fun p => (g p.2).bind fun q => (gTIn ng q.1 p.1).bind fun d => some (d, q.2)
end
end DL
namespace DL
open PySem L2 PySem.Spec
section
variable {K : PySem.W.Frag} {G H : Hp}
end
section
variable {ι : Type} {Xf : ι → Cx} {P : Program} {w : World} {K : PySem.W.Frag} {mg : Str → Option Value} {base : Heap} {n : Nat} [F : Fam Xf P w K mg base n]
variable {m m1 : List Ty} {pos pos2 p p2 : Pos} {a : Expr} {f : Ef}
end
end DL
namespace DL
open PySem L2 PySem.Spec
section
variable {P : Program} {w : World} {A : Around} {E : Value → Shared → Prop} {s : Shared} {a : Addr} {S : Int → Bool} {n : Nat}
end
end DL
namespace DL
open PySem L2 PySem.Spec
section
variable {P : Program} {w : World} {A : Around} {E : Value → Shared → Prop} {s : Shared} {a b : Addr} {S T : Int → Bool} {n m : Nat}
def flipV (a : Addr) (h : Int) (x : Value) : Sem Unit := holding [x] do
  if !(← setDiscardHashed a x h) then
    let _ ← setAddHashed a x h
end
end DL
namespace DL
open PySem L2 PySem.Spec
section
variable {P : Program} {w : World} {A : Around} {E : Value → Shared → Prop} {s : Shared} {a o : Addr} {S T : Int → Bool} {n m : Nat}
def flips (id : String) (a o : Addr) (was : Nat) (ys : Array (Int × Value)) : Sem Unit := do
  for (h, x) in ys do
    flipV a h x
    Builtin.Frozenset.unchanged id o was
end
end DL
namespace DL
open PySem L2 PySem.Spec
structure Sits (m n : Nat) (owner : Array (Option Nat)) : Prop where
  sz : owner.size = m + 1
  all : ∀ k, k < n → ∃ j, j ≤ m ∧ oAt owner j = some k
  few : ∃ ps : List Nat, ps.length = n ∧ ∀ j, j ≤ m → oAt owner j ≠ none → j ∈ ps
end DL
namespace DL
open PySem L2 PySem.Spec
section
variable {P : Program} {w : World} {A : Around} {E : Value → Shared → Prop} {s : Shared} {a o : Addr} {S T : Int → Bool} {n m : Nat}
def Bare (w : World) (h : Heap) (a : Addr) (M : Nat) : Prop :=
  ∃ ob ep t, h.get? a = some ob ∧ ob.ExactSet ∧ ob.data = .set #[] ep t ∧ t.place = #[] ∧ t.dummies = #[] ∧ t.mask = M ∧ (w.params.followText "set-order" = true ∨ t.led = true)
theorem Bare.setR {M : Nat} (B : Bare w s.heap a M) (hT : ∀ k, T k = false) : SetR w s.heap a T 0 := by
  obtain ⟨ob, ep, t, ho, hex, hd, hp, hdm, hM, hl⟩ := B
  refine ⟨ob, #[], ep, t, ho, hex, hd, fun e he => by simp at he, by simp, fun k => by rw [hT k]; simp, by decide, ?_, rfl, ?_, hl⟩
  · unfold SetTable.fits SetTable.fill
    rw [hp, hdm]
    simp
  · rw [hp]; exact List.Pairwise.nil
end
end DL
namespace DL
open PySem L2 PySem.Spec
section
variable {P : Program} {w : World} {A : Around} {E : Value → Shared → Prop} {s : Shared} {a o : Addr} {S T : Int → Bool} {n m : Nat}
end
end DL
namespace DL
open PySem L2 PySem.Spec
section
variable {P : Program} {w : World} {A : Around} {E : Value → Shared → Prop} {s : Shared} {a o l r : Addr} {S T : Int → Bool} {n m : Nat}
end
end DL
namespace DL
open PySem L2 PySem.Spec PyProof.Rows
section
variable {ι : Type} {Xf : ι → Cx} {P : Program} {w : World} {K : PySem.W.Frag} {mg : Str → Option Value} {base : Heap} {n : Nat} [F : Fam Xf P w K mg base n]
variable {m m1 m2 : List Ty} {pos p pos2 p2 pos3 p3 pos4 : Pos} {a b : Expr} {f g : Ef}
end
end DL
namespace DL
open PySem L2 PySem.Spec PyProof.Rows
def gRv : PyData → Option (List PyData)
  | .list ds => some ds.reverse
  | _ => none
def iRv (f : Ef) : Lf := fun e => (f e).bind fun p => (gRv p.1).bind fun ds => some (ds, p.2)
@[simp] theorem riRv {f : Ef} {e : En} : iRv f e = (f e).bind fun p => (gRv p.1).bind fun ds => some (ds, p.2) := rfl
section
variable {ι : Type} {Xf : ι → Cx} {P : Program} {w : World} {K : PySem.W.Frag} {mg : Str → Option Value} {base : Heap} {n : Nat} [F : Fam Xf P w K mg base n]
variable {m m1 : List Ty} {pos p : Pos} {a tg : Expr} {f : Ef}
end
end DL
namespace DL
open PySem L2 PySem.Spec PyProof.Rows
def rngDn (hi : Int) (n : Nat) : List PyData := (List.range n).map fun i => .int (hi - (i : Nat))
def rng3 : PyData → PyData → PyData → Option (List PyData)
  | .int i, .int j, .int c => if (i - j).toNat ≤ sizeLine ∧ -(2 ^ 62) ≤ i ∧ i < 2 ^ 62 ∧ -(2 ^ 62) ≤ j ∧ j < 2 ^ 62 ∧ c = -1 then some (rngDn i (i - j).toNat) else none
  | _, _, _ => none
def iR3 (f g h : Ef) : Lf := fun e => (f e).bind fun p => (g p.2).bind fun q => (h q.2).bind fun r => (rng3 p.1 q.1 r.1).bind fun ds => some (ds, r.2)
@[simp] theorem riR3 {f g h : Ef} {e : En} : iR3 f g h e = (f e).bind fun p => (g p.2).bind fun q => (h q.2).bind fun r => (rng3 p.1 q.1 r.1).bind fun ds => some (ds, r.2) := rfl
section
variable {ι : Type} {Xf : ι → Cx} {P : Program} {w : World} {K : PySem.W.Frag} {mg : Str → Option Value} {base : Heap} {n : Nat} [F : Fam Xf P w K mg base n]
variable {m m1 m2 m3 : List Ty} {pos p : Pos} {a b c tg : Expr} {f g h : Ef}
end
end DL
namespace DL
open PySem L2 PySem.Spec
section
variable {K : PySem.W.Frag} {m m1 : List Ty} {M : Mk} {lf : Lf}
end
section
variable {ι : Type} {Xf : ι → Cx} {P : Program} {w : World} {K : PySem.W.Frag} {mg : Str → Option Value} {base : Heap} {n : Nat} [F : Fam Xf P w K mg base n]
variable {M : Mk} {m m1 m2 : List Ty} {pos p p2 apos cpos xp : Pos} {a b c : Expr} {f g h : Ef} {lf : Lf} {t1 t2 t3 : Ty}
end
theorem nnx_retE {tw : CT} {f : Ef} : NoNx (sRetE tw f) := fun e e' h => by
  obtain ⟨p, _, h⟩ := oBs h
  obtain ⟨q, _, h⟩ := oBs h
  cases h
end DL
namespace DL
open PySem PySem.Spec L2
section
variable {ι : Type} {Xf : ι → Cx} {P : Program} {w : World} {K : PySem.W.Frag} {mg : Str → Option Value} {base : Heap} {n : Nat} [F : Fam Xf P w K mg base n]
variable {m m1 : List Ty} {a : Expr} {ef : Ef} {k : Nat} {p1 p2 p3 pos : Pos}
end
end DL
namespace DL
open PySem PySem.Spec L2
section
variable {K : PySem.W.Frag} {m : List Ty} {g : Gq} {pt : Pf} {t : Ty} {ts : List Ty} {ns : List Str} {C : Addr} {f : Str} {k : Nat}
end
section
variable {ι : Type} {Xf : ι → Cx} {P : Program} {w : World} {K : PySem.W.Frag} {mg : Str → Option Value} {base : Heap} {n : Nat} [F : Fam Xf P w K mg base n]
variable {m : List Ty} {pos : Pos} {a : Expr} {g : Gq} {pt : Pf} {t : Ty} {ts : List Ty} {ns : List Str} {C : Addr} {f : Str}
end
end DL
namespace DL
open PySem PySem.Spec L2
section
variable {K : PySem.W.Frag} {m m1 : List Ty} {g : Gq} {pt : Pf} {t : Ty} {ts : List Ty} {ns : List Str} {C : Addr} {f : Str} {k : Nat} {M : Mk}
end
section
variable {ι : Type} {Xf : ι → Cx} {P : Program} {w : World} {K : PySem.W.Frag} {mg : Str → Option Value} {base : Heap} {n : Nat} [F : Fam Xf P w K mg base n]
variable {M : Mk} {m m1 : List Ty} {pos spos : Pos} {o v : Expr} {g : Gq} {pt : Pf} {t : Ty} {ts : List Ty} {ns : List Str} {C : Addr} {f : Str} {ef : Ef}
end
end DL
namespace DL
open PySem PySem.Spec L2
def sNewF (j : Nat) (f : Ef) : Sf := fun e => (f e).bind fun p => match p.2.getD j .none with
  | .list ds => some (.nx, p.2.set j (.list (ds ++ [p.1])))
  | _ => none
section
variable {K : PySem.W.Frag} {m m1 : List Ty} {t : Ty} {ts : List Ty} {ns : List Str} {C : Addr} {f : Str} {M : Mk}
end
section
variable {ι : Type} {Xf : ι → Cx} {P : Program} {w : World} {K : PySem.W.Frag} {mg : Str → Option Value} {base : Heap} {n : Nat} [F : Fam Xf P w K mg base n]
variable {M : Mk} {m m1 : List Ty} {pos spos xp : Pos} {v : Expr} {t : Ty} {ts : List Ty} {ns : List Str} {C : Addr} {f : Str} {ef : Ef}
end
end DL
namespace DL
open PySem PySem.Spec L2
section
variable {K : PySem.W.Frag} {m m1 m2 : List Ty} {fr : Lf} {tys : List Ty} {L : List (Option Nat)}
end
structure CalM (P : Program) (w : World) (K : PySem.W.Frag) (mg : Str → Option Value) (base : Heap) (k : Nat) (C : Addr) (x : Str) (ptys : List Ty) (rty : Ty) (Fn : DFn) : Prop where
  ex : ∃ (f : Addr) (fd : FuncData) (ps : List Str), FnG P w K mg base k f fd ps (spD K ptys rty Fn) ∧ Meth K C x f ∧ Binds K fd ps []
section
variable {K : PySem.W.Frag} {m m1 : List Ty} {rty : Ty} {ts : List Ty} {ns : List Str} {C : Addr} {x : Str} {ef : Ef} {sp : Sp} {tl : TA} {j : Nat}
end
section
variable {ι : Type} {Xf : ι → Cx} {P : Program} {w : World} {K : PySem.W.Frag} {mg : Str → Option Value} {base : Heap} {n : Nat} [F : Fam Xf P w K mg base n] [FG : FamG Xf]
variable {m m1 : List Ty} {pos apos xp : Pos} {a : Expr} {es : List Expr} {fr : Lf} {tys : List Ty} {L : List (Option Nat)} {C : Addr} {ns : List Str} {ts : List Ty}
end
end DL
namespace DL
open PySem PySem.Spec L2
section
variable {ι : Type} {Xf : ι → Cx} {P : Program} {w : World} {K : PySem.W.Frag} {mg : Str → Option Value} {base : Heap} {n : Nat} [F : Fam Xf P w K mg base n] [FG : FamG Xf]
variable {m m1 : List Ty} {pos apos xp : Pos} {a : Expr} {es : List Expr} {fr : Lf} {tys : List Ty} {L : List (Option Nat)} {C : Addr} {ns : List Str} {ts : List Ty}
end
end DL
namespace DL
open PySem PySem.Spec L2
def spI (K : PySem.W.Frag) (pty pty' : Ty) (ptys : List Ty) (Fn : DFn) : Sp := fun vs H Q _ =>
  ∃ (d0 : PyData) (ds : List PyData) (fs : List PyData) (G : Hp) (A : List Addr), Fn (d0 :: ds) = some (.none, fs) ∧ OwnA K G H (pty :: ptys) (d0 :: ds) (vs.map some) A ∧ A.Nodup ∧ Same G H ∧
    ∀ (G' H' : Hp) (v : V) (A' : List Addr), Step A G H A' G' H' → OwnA K G' H' (pty' :: ptys) fs (vs.map some) A' → A'.Nodup → Same G' H' → v = .non → Q v H'
structure CalI (P : Program) (w : World) (K : PySem.W.Frag) (mg : Str → Option Value) (base : Heap) (k : Nat) (C : Addr) (x : Str) (ns : List Str) (ts ptys : List Ty) (Fn : DFn) : Prop where
  ex : ∃ (f : Addr) (fd : FuncData) (ps : List Str), FnG P w K mg base k f fd ps (spI K (.o C [] []) (.o C ns ts) ptys Fn) ∧ L2.Mk K C f ∧ mg x = some (.ref C) ∧ Binds K fd ps []
section
variable {ι : Type} {Xf : ι → Cx} {P : Program} {w : World} {K : PySem.W.Frag} {mg : Str → Option Value} {base : Heap} {n : Nat} [F : Fam Xf P w K mg base n] [FG : FamG Xf]
variable {m m1 : List Ty} {pos p : Pos} {a : Expr} {es : List Expr} {fr : Lf} {tys : List Ty} {L : List (Option Nat)} {C : Addr} {ns : List Str} {ts : List Ty}
end
end DL
namespace DL
open PySem PySem.Spec L2
def eMake (Fn : DFn) (r : Lf) : Ef := fun e => (r e).bind fun p => (Fn (.list [] :: p.1)).bind fun q => match q with
  | (.none, f0 :: _) => some (f0, p.2)
  | _ => none
section
variable {K : PySem.W.Frag} {m m1 : List Ty} {fr : Lf} {tys : List Ty} {L : List (Option Nat)} {C : Addr} {ns : List Str} {ts : List Ty} {Fn : DFn}
end
section
variable {ι : Type} {Xf : ι → Cx} {P : Program} {w : World} {K : PySem.W.Frag} {mg : Str → Option Value} {base : Heap} {n : Nat} [F : Fam Xf P w K mg base n] [FG : FamG Xf]
variable {m m1 : List Ty} {pos p : Pos} {a : Expr} {es : List Expr} {fr : Lf} {tys : List Ty} {L : List (Option Nat)} {C : Addr} {ns : List Str} {ts : List Ty}
end
end DL
namespace DL
open PySem PySem.Spec L2
end DL
namespace DL
open PySem PySem.Spec L2
def flatN : Nat → PyData → Bool
  | 0, d => sc1 d
  | n + 1, .tuple xs => xs.all (flatN n)
  | _ + 1, d => sc1 d
def flatR : Ty → PyData → Bool
  | .s, d => flatN 3 d
  | .d, .dict kvs => kvs.all fun p => sc1 p.2
  | _, _ => false
def borF (rty : Ty) (Fn : DFn) : DFn := fun ds => (Fn ds).bind fun p => (grd (flatR rty p.1)).bind fun _ => some (p.1, ds)
section
variable {K : PySem.W.Frag} {G G' H : Hp}
end
section
variable {P : Program} {w : World} {K : PySem.W.Frag} {mg : Str → Option Value} {base : Heap} {k : Nat} {f : Addr} {fd : FuncData} {ps : List Str} {C : Addr} {ns : List Str} {ts tys : List Ty} {rty : Ty} {Fn : DFn}
end
end DL
namespace DL
open PySem PySem.Spec L2
section
variable {K : PySem.W.Frag} {G H : Hp} {ts : List Ty} {ns : List Str} {f : Str} {k : Nat} {t : Ty} {fs : List (Str × V)} {ds : List PyData} {A1 : List Addr} {d : PyData}
end
section
variable {K : PySem.W.Frag} {m : List Ty} {g : Gq} {pt : Pf} {t : Ty} {ts : List Ty} {ns : List Str} {C : Addr} {f : Str} {k j : Nat}
end
section
variable {ι : Type} {Xf : ι → Cx} {P : Program} {w : World} {K : PySem.W.Frag} {mg : Str → Option Value} {base : Heap} {n : Nat} [F : Fam Xf P w K mg base n]
variable {m : List Ty} {pos p : Pos} {a : Expr} {g : Gq} {pt : Pf} {t : Ty} {ts : List Ty} {ns : List Str} {C : Addr} {f : Str}
end
section
variable {ι : Type} {Xf : ι → Cx} {P : Program} {w : World} {K : PySem.W.Frag} {mg : Str → Option Value} {base : Heap} {n : Nat} [F : Fam Xf P w K mg base n] [FG : FamG Xf]
variable {m m1 : List Ty} {pos apos xp : Pos} {a : Expr} {es : List Expr} {fr : Lf} {tys : List Ty} {L : List (Option Nat)} {C : Addr} {ns : List Str}
end
end DL
namespace DL
open PySem PySem.Spec L2
def gAppF (k : Nat) : PyData → PyData → Option PyData
  | .list ds, x => match ds[k]? with
    | some (.list xs) => if xs.length < sizeLine then some (.list (ds.set k (.list (xs ++ [x])))) else none
    | _ => none
  | _, _ => none
def eAppF (j k : Nat) (f : Ef) : Ef := fun e => (f e).bind fun p => (gAppF k (e.getD j .none) p.1).bind fun d => some (.none, p.2.set j d)
section
variable {K : PySem.W.Frag} {m m1 : List Ty} {t : Ty} {ts : List Ty} {ns : List Str} {C : Addr} {fl : Str} {k j : Nat} {f : Ef}
end
section
variable {ι : Type} {Xf : ι → Cx} {P : Program} {w : World} {K : PySem.W.Frag} {mg : Str → Option Value} {base : Heap} {n : Nat} [F : Fam Xf P w K mg base n]
variable {m m1 : List Ty} {pos xp fpos apos cpos : Pos} {v : Expr} {f : Ef} {ts : List Ty} {ns : List Str} {C : Addr} {fl : Str}
end
end DL
namespace DL
open PySem PySem.Spec L2
end DL
namespace DL
open PySem PySem.Spec L2 PyProof.Rows
theorem k2 {K : PySem.W.Frag} {t : String} {a b : Bool} (h1 : kitB t "tuple" = some a) (h2 : kitB t "list" = some b) : PySem.W.kitAny K (.type t) [.type "tuple", .type "list"] = some (a || b) := by
  refine kitAny_cons (kit_ty h1) (fun z => ?_) fun z => by rw [z]; rfl
  rw [z]
  exact kitAny_cons (kit_ty h2) (fun z => by rw [z]; exact kitAny_nil) fun z => by rw [z]; rfl
section
variable {ι : Type} {Xf : ι → Cx} {P : Program} {w : World} {K : PySem.W.Frag} {mg : Str → Option Value} {base : Heap} {n : Nat} [F : Fam Xf P w K mg base n]
variable {m m1 : List Ty} {pos p p2 p3 p4 : Pos} {a : Expr} {f : Ef} {k1 : Nat}
end
end DL
namespace DL
open PySem PySem.Spec L2 PyProof.Rows
def IsTupN (h : Heap) (t : Addr) (its : Array Value) : Prop := ∃ o, h.get? t = some o ∧ o.cls = .type "tuple" ∧ o.dict = none ∧ ∃ n, o.data = .seq its n
theorem IsTupN.tup {h : Heap} {t : Addr} {its : Array Value} (e : IsTupN h t its) : IsTup h t its := by
  obtain ⟨o, h1, h2, _, h3⟩ := e
  exact ⟨o, h1, h2, h3⟩
section
variable {P : Program} {w : World} {A : Around} {E : Value → Shared → Prop} {u : Shared}
end
section
variable {P : Program} {w : World} {A : Around} {R : Result → Shared → Prop} {I : Addr} {fp wr : List Addr} {G : Array GenState → Array GenState → Prop} {n : Nat} {Pd : Nat → Value → Prop} {St : Nat → Shared → Prop}
end
section
variable {X : Cx}
end
end DL
namespace DL
open PySem PySem.Spec L2 PyProof.Rows
section
variable {ι : Type} {Xf : ι → Cx} {P : Program} {w : World} {K : PySem.W.Frag} {mg : Str → Option Value} {base : Heap} {n : Nat} [Fm : Fam Xf P w K mg base n] [FG : FamG Xf]
end
end DL
namespace DL
open PySem PySem.Spec L2
def gKeys : PyData → Option (List PyData)
  | .dict kvs => some (kvs.map (·.1))
  | _ => none
def iKy (j : Nat) : Lf := fun e => (gKeys (e.getD j .none)).bind fun ds => some (ds, e)
@[simp] theorem riKy {j : Nat} {e : En} : iKy j e = (gKeys (e.getD j .none)).bind fun ds => some (ds, e) := rfl
section
variable {K : PySem.W.Frag} {G H H' : Hp} {a : Addr} {o : Obj} {kvs : List (Int × V)}
end
section
variable {K : PySem.W.Frag} {m mn : List Ty} {M : Mk} {j : Nat}
end
section
variable {ι : Type} {Xf : ι → Cx} {P : Program} {w : World} {K : PySem.W.Frag} {mg : Str → Option Value} {base : Heap} {n : Nat} [F : Fam Xf P w K mg base n]
variable {m m1 mn : List Ty} {M : Mk}
end
section
variable {K : PySem.W.Frag} {G H G1 H1 : Hp} {m m1 m2 : List Ty} {σ : St} {e : En} {A A1 : List Addr} {a : Addr} {o : Obj} {kvs : List (Int × V)}
end
section
variable {ι : Type} {Xf : ι → Cx} {P : Program} {w : World} {K : PySem.W.Frag} {mg : Str → Option Value} {base : Heap} {n : Nat} [F : Fam Xf P w K mg base n]
variable {m m1 m2 : List Ty} {ad : Addr} {ob : Obj} {kvs : List (Int × V)} {pos p xp : Pos} {a b tg : Expr} {f g : Ef}
end
end DL
namespace PySem.AutoSeq1
end PySem.AutoSeq1
namespace DL
open PySem PySem.Spec L2
def gExtT (l x : PyData) : Option PyData := match l, x with
  | .list ds, .tuple es => if ds.length + es.length ≤ sizeLine then some (.list (ds ++ es)) else none
  | _, _ => none
def eExtT (j : Nat) (f : Ef) : Ef := fun e => (f e).bind fun p => (gExtT (p.2.getD j .none) p.1).bind fun l => some (.none, p.2.set j l)
@[simp] theorem rExtT {j : Nat} {f : Ef} {e : En} : eExtT j f e = (f e).bind fun p => (gExtT (p.2.getD j .none) p.1).bind fun l => some (.none, p.2.set j l) := rfl
section
variable {K : PySem.W.Frag} {m m1 : List Ty} {f : Ef}
end
section
variable {ι : Type} {Xf : ι → Cx} {P : Program} {w : World} {K : PySem.W.Frag} {mg : Str → Option Value} {base : Heap} {n : Nat} [F : Fam Xf P w K mg base n]
variable {m m1 : List Ty} {apos cpos xp : Pos} {v : Expr} {f : Ef}
end
end DL
namespace DL
open PySem PySem.Spec L2
section
variable {K : PySem.W.Frag} {G H : Hp} {m m1 m2 : List Ty} {f g : Ef} {t : Ty}
end
section
variable {ι : Type} {Xf : ι → Cx} {P : Program} {w : World} {K : PySem.W.Frag} {mg : Str → Option Value} {base : Heap} {n : Nat} [F : Fam Xf P w K mg base n]
variable {m m1 m2 : List Ty} {pos : Pos} {a b : Expr} {f g : Ef} {t : Ty}
end
end DL
namespace DL
open PySem L2 PySem.Spec
def sPar4 (i j l q : Nat) (f : Lf) : Sf := fun e => (f e).bind fun p => match p.1 with
  | [x, y, z, w] => some (.nx, (((p.2.set i x).set j y).set l z).set q w)
  | _ => none
def four {α : Type} (l : List PyData) (k : PyData → PyData → PyData → PyData → Option α) : Option α := match l with
  | [x, y, z, w] => k x y z w
  | _ => none
@[simp] theorem four_ok {α : Type} {x y z w : PyData} {k : PyData → PyData → PyData → PyData → Option α} : four [x, y, z, w] k = k x y z w := rfl
@[simp] theorem rsPar4 {i j l q : Nat} {fr : Lf} {e : En} : sPar4 i j l q fr e = (fr e).bind fun p => four p.1 fun x y z w => some (.nx, (((p.2.set i x).set j y).set l z).set q w) := rfl
section
variable {K : PySem.W.Frag} {m m1 : List Ty} {M : Mk} {lf : Lf}
end
section
variable {ι : Type} {Xf : ι → Cx} {P : Program} {w : World} {K : PySem.W.Frag} {mg : Str → Option Value} {base : Heap} {n : Nat} [F : Fam Xf P w K mg base n]
variable {M : Mk} {m m1 m2 : List Ty} {pos : Pos} {a b c d : Expr} {lf : Lf} {t1 t2 t3 t4 : Ty}
end
end DL
namespace DL
open PySem L2 PySem.Spec
def gDLen (d : PyData) : Option PyData := match d with
  | .dict kvs => some (.int kvs.length)
  | _ => none
def eDLen (j : Nat) : Ef := fun e => (gDLen (e.getD j .none)).map fun d => (d, e)
@[simp] theorem rDLen {j : Nat} {e : En} : eDLen j e = (gDLen (e.getD j .none)).bind fun d => some (d, e) := by unfold eDLen; cases gDLen (e.getD j .none) <;> rfl
section
variable {ι : Type} {Xf : ι → Cx} {P : Program} {w : World} {K : PySem.W.Frag} {mg : Str → Option Value} {base : Heap} {n : Nat} [F : Fam Xf P w K mg base n]
variable {m m1 : List Ty} {pos p p2 : Pos}
include F in
theorem pd_gstr {x s : Str} {t : Tok} (hm : mg x = some (.str s t)) (hs : s.length ≤ sizeLine := by decide) (hg : ∀ i, Gl (Xf i) x := by intro _; rfl) (hd : (x == ("__debug__" : Str)) = false := by decide) : PD Xf K m (.Name x pos) .s (eC (.str s)) m :=
  ⟨_, fun j => pe_glob (v := .str s) (hg j) (by rw [F.mg_ j]; exact hm) ⟨t, rfl⟩ hd, fun {G H σ e A d e' Q} st hf k => by cases hf; exact ans_s st (.str s hs) k⟩
end
section
variable {K : PySem.W.Frag} {m m1 : List Ty} {M : Mk} {lf : Lf}
end
section
variable {ι : Type} {Xf : ι → Cx} {P : Program} {w : World} {K : PySem.W.Frag} {mg : Str → Option Value} {base : Heap} {n : Nat} [F : Fam Xf P w K mg base n]
variable {M : Mk} {m m1 m2 : List Ty} {pos p p2 apos cpos xp : Pos} {a b c : Expr} {f g h : Ef} {lf : Lf} {t1 t2 t3 : Ty}
end
end DL
namespace DL
open PySem L2 PySem.Spec
def gUpdL (d s : PyData) : Option PyData := match d, s with
  | .dict kvs, .list xs => (dictI kvs).bind fun ds => (intsOf xs).bind fun is => if kvs.length + is.length < 100000 then some (.dict ((joinI (yesI is (.bool true)) ds).map kvD)) else none
  | _, _ => none
def eUpdL (j : Nat) (f : Ef) : Ef := fun e => (f e).bind fun p => (gUpdL (p.2.getD j .none) p.1).bind fun d => some (.none, p.2.set j d)
@[simp] theorem rUpdL {j : Nat} {f : Ef} {e : En} : eUpdL j f e = (f e).bind fun p => (gUpdL (p.2.getD j .none) p.1).bind fun d => some (.none, p.2.set j d) := rfl
section
variable {K : PySem.W.Frag} {G H G1 H1 : Hp} {m m1 m2 mn : List Ty} {σ : St} {e : En} {A A1 : List Addr} {t : Ty} {ts : List Ty}
end
section
variable {ι : Type} {Xf : ι → Cx} {P : Program} {w : World} {K : PySem.W.Frag} {mg : Str → Option Value} {base : Heap} {n : Nat} [F : Fam Xf P w K mg base n]
variable {m m1 m2 m3 : List Ty} {pos p p2 apos cpos xp kp vp tp : Pos} {a b c e : Expr} {f g h : Ef} {scope : Scope} {jn : Option String}
end
end DL
namespace DL
open PySem L2 PySem.Spec
def un3L : PyData → Option (PyData × PyData × PyData)
  | .list [a, b, c] => some (a, b, c)
  | _ => none
def un4L : PyData → Option (PyData × PyData × PyData × PyData)
  | .list [a, b, c, d] => some (a, b, c, d)
  | _ => none
@[simp] theorem un3L_ok {x y z : PyData} : un3L (.list [x, y, z]) = some (x, y, z) := rfl
@[simp] theorem un4L_ok {x y z w : PyData} : un4L (.list [x, y, z, w]) = some (x, y, z, w) := rfl
@[simp] theorem rgTpL3 {gf gf2 gf3 : Gf} {d : PyData} {e : En} : gTpL 3 (gsCons gf (gsCons gf2 (gsCons gf3 gsNil))) d e = (un3L d).bind fun p => (gf p.1 e).bind fun e => (gf2 p.2.1 e).bind fun e => gf3 p.2.2 e := by
  unfold gTpL un3L
  cases d with
  | list ds =>
    match ds with
    | [] => rfl
    | [a] => rfl
    | [a, b] => rfl
    | [a, b, c] =>
      show ((gf a e).bind fun e' => (gf2 b e').bind fun e'' => (gf3 c e'').bind fun e''' => some e''') = _
      simp only [Option.bind_some]
      congr 1; funext e'; congr 1; funext e''; cases gf3 c e'' <;> rfl
    | a :: b :: c :: x :: r => show (if (a :: b :: c :: x :: r).length = 3 then _ else _) = _; rw [if_neg (by simp)]; rfl
  | _ => rfl
@[simp] theorem rgTpL4 {gf gf2 gf3 gf4 : Gf} {d : PyData} {e : En} : gTpL 4 (gsCons gf (gsCons gf2 (gsCons gf3 (gsCons gf4 gsNil)))) d e = (un4L d).bind fun p => (gf p.1 e).bind fun e => (gf2 p.2.1 e).bind fun e => (gf3 p.2.2.1 e).bind fun e => gf4 p.2.2.2 e := by
  unfold gTpL un4L
  cases d with
  | list ds =>
    match ds with
    | [] => rfl
    | [a] => rfl
    | [a, b] => rfl
    | [a, b, c] => rfl
    | [a, b, c, w] =>
      show ((gf a e).bind fun e' => (gf2 b e').bind fun e'' => (gf3 c e'').bind fun e3 => (gf4 w e3).bind fun e4 => some e4) = _
      simp only [Option.bind_some]
      congr 1; funext e'; congr 1; funext e''; congr 1; funext e3; cases gf4 w e3 <;> rfl
    | a :: b :: c :: w :: x :: r => show (if (a :: b :: c :: w :: x :: r).length = 4 then _ else _) = _; rw [if_neg (by simp)]; rfl
  | _ => rfl
end DL
namespace DL
open PySem L2 PySem.Spec
def eDGetP (g gi : Gq) : Ef := fun e => (g e).bind fun d => (gi e).bind fun i => (gDGet d i).bind fun x => some (x, e)
def eDInP (gg : PyData → PyData → Option PyData) (g gi : Gq) : Ef := fun e => (gi e).bind fun i => (g e).bind fun d => (gg d i).bind fun x => some (x, e)
def sDPutP (g : Gq) (pt : Pf) (gi : Gq) (f : Ef) : Sf := fun e => (f e).bind fun p => (g p.2).bind fun d => (gi p.2).bind fun i => (gDPut d i p.1).bind fun x => some (.nx, pt p.2 x)
@[simp] theorem rDGetP {g gi : Gq} {e : En} : eDGetP g gi e = (g e).bind fun d => (gi e).bind fun i => (gDGet d i).bind fun x => some (x, e) := rfl
@[simp] theorem rDInP {gg : PyData → PyData → Option PyData} {g gi : Gq} {e : En} : eDInP gg g gi e = (gi e).bind fun i => (g e).bind fun d => (gg d i).bind fun x => some (x, e) := rfl
@[simp] theorem rDPutP {g gi : Gq} {pt : Pf} {f : Ef} {e : En} : sDPutP g pt gi f e = (f e).bind fun p => (g p.2).bind fun d => (gi p.2).bind fun i => (gDPut d i p.1).bind fun x => some (.nx, pt p.2 x) := rfl
section
variable {K : PySem.W.Frag} {m m1 : List Ty} {g gi : Gq} {pt : Pf} {f : Ef}
end
section
variable {ι : Type} {Xf : ι → Cx} {P : Program} {w : World} {K : PySem.W.Frag} {mg : Str → Option Value} {base : Heap} {n : Nat} [F : Fam Xf P w K mg base n]
variable {m m1 m2 : List Ty} {pos p p2 pos' spos : Pos} {a b c : Expr} {g gi : Gq} {pt : Pf} {f : Ef} {M : Mk}
end
end DL
namespace DL
open PySem L2 PySem.Spec
section
variable {ι : Type} {Xf : ι → Cx} {P : Program} {w : World} {K : PySem.W.Frag} {mg : Str → Option Value} {base : Heap} {n : Nat} [F : Fam Xf P w K mg base n]
variable {M : Mk} {m mn : List Ty} {pos : Pos} {x : Str} {t : Ty} {v : V} {sts : List Stmt} {f : Sf}
end
def flatF : PyData → Bool
  | .dict kvs => kvs.all fun p => sc1 p.2
  | .list xs => xs.all sc1
  | d => sc1 d
def eThawO (i j : Nat) (f : Ef) : Ef := fun e => match e.getD i .none with
  | .list (_ :: ds) => (f (e.set i (.list (e.getD j .none :: ds)))).bind fun p => match p.2.getD i .none with
    | .list (_ :: es) => (grd (flat1 p.1 && es.all flatF)).bind fun _ => some (p.1, e.set i (.list (.none :: es)))
    | _ => none
  | _ => none
section
variable {K : PySem.W.Frag} {G G' H H' : Hp}
end
end DL
namespace DL
open PySem L2 PySem.Spec
abbrev leTail : List Value := [.type "LookupError", .type "Exception", .type "BaseException", .type "object"]
structure OexL (K : PySem.W.Frag) (C : Addr) : Prop where
  cls : ∃ nm q N bs sn sub ab col dd k0 k1 k2 k3 k5, K.lookup C = some (excClassObj nm q C N bs leTail true sn sub ab col dd k0 k1 k2 k3 k5 "LookupError.__new__")
  sa : PySem.W.findIn K (.ref C) "__setattr__" = some (some (.builtin "object.__setattr__"))
  exC : PySem.W.subIn K (.ref C) (.type "BaseException") = some true
  tyC : PySem.W.typeIn K (.ref C) = some (.type "type")
  kC : PySem.W.keepIn K (.ref C) = true
theorem OexL.over {K : PySem.W.Frag} {C : Addr} (T : OexL K C) : PySem.W.excOver K C leTail = true ∧ ∃ cd, PySem.W.clsIn K C = some cd ∧ cd.hasDict = true := by
  obtain ⟨nm, q, N, bs, sn, sub, ab, col, dd, k0, k1, k2, k3, k5, hC⟩ := T.cls
  have hcl : PySem.W.clsIn K C = some { name := nm, bases := bs, mro := .ref C :: leTail, ns := N, qualname := q, hasDict := true, slotNames := sn, subclasses := sub, abstract := ab, collection := col, hasDel := false } := by unfold PySem.W.clsIn; rw [hC] <;> rfl
  refine ⟨?_, _, hcl, rfl⟩
  unfold PySem.W.excOver
  rw [hcl]
  show (C == C && PySem.W.excTail leTail leTail) = true
  rw [beq_self_eq_true, Bool.true_and]
  decide +kernel
section
variable {X : Cx} {pins : List (Addr × Obj)} {σ : St} {H : Hp} {s : Shared} {a C dx : Addr} {f : Str} {y : V} {u : Value} {fs : List (Str × V)} {R : Unit → Shared → Prop} {E : Value → Shared → Prop} {Ar : Around}
end
section
variable {X : Cx} {o e : Expr} {es : List Expr} {to te : TE} {ta : TA} {f : Str} {p p' pos : Pos}
end
structure ExcG (P : Program) (w : World) (K : PySem.W.Frag) (mg : Str → Option Value) (base : Heap) (k : Nat) (x : Str) (flds : List Str) : Prop where
  ex : ∃ C : Addr, mg x = some (.ref C) ∧ ∀ (X : Cx) (a : Expr) (es : List Expr) (ta : TA) (p pos : Pos), X.prog = P → X.w = w → X.K = K → X.mg = mg → X.base = base → Room (k + 1) X.A → Gl X x → PA X (a :: es) ta → (x == ("__debug__" : Str)) = false →
    starEach (a :: es) X.env = (false, eval a X.env) :: starEach es X.env → (backTo pos (starEach es X.env)).any (·.1) = false → L2N.PMk X (.Call (.Name x p) (a :: es) [] pos) (tMkO C (spIn C flds) [] ta)
theorem ExcT.gen {P : Program} {w : World} {K : PySem.W.Frag} {mg : Str → Option Value} {base : Heap} {k : Nat} {x : Str} {flds : List Str} (T : ExcT P w K mg base k x flds) : ExcG P w K mg base k x flds := by
  obtain ⟨C, fI, fd, ps, OX, gC, iC, tI, FI, bI⟩ := T.ex
  refine ⟨C, gC, fun X a es ta p pos e1 e2 e3 e4 e5 hr hg ha hdb he hpl => ?_⟩
  subst e1 e2 e3 e4 e5
  exact pmk_oexN OX iC tI FI hr bI pass0 hg gC ha hdb he hpl
end DL
namespace DL
open PySem L2 PySem.Spec
def TestOk (X : Cx) (te : Expr) (cs : Value → Option Bool) : Prop :=
  ∀ (a : Addr) (oe : Obj) (pn : List (Addr × Obj)) (σ : St) (H : Hp) (s : Shared) (cls : Value) (b : Bool) (R : Bool → Shared → Prop) (E : Value → Shared → Prop), L2.Inv (X.suite a ((a, oe) :: pn)) [] σ H s →
    PySem.W.Looks (model X.prog X.w) s.heap (typeOf (.ref a)) cls → cs cls = some b → (∀ h', (∀ q o, s.heap.get? q = some o → h'.get? q = some o) → R b { s with heap := h' }) →
    wpAny (model X.prog X.w) (X.A.mark (some (.ref a))) (eval te X.env) (fun c s1 => wpAny (model X.prog X.w) (X.A.mark (some (.ref a))) (excMatches (.ref a) c) R E s1) E s
def HName (X : Cx) (nm : Str) : Prop := X.env.kindOf nm = some .local ∨ (X.env.kindOf nm = some .cell ∧ X.fn nm = true)
theorem HName.loc {X : Cx} {nm : Str} (h : HName X nm) : Loc X.env.scope nm := h.imp id fun z => z.1
theorem HName.fn {X : Cx} {nm : Str} (h : HName X nm) : X.fn nm = true ∨ X.env.scope.names.lookup nm = some .local := h.elim .inr fun z => .inl z.2
structure Cl where
  cs : Value → Option Bool
  i : Option Nat
  ts : Addr → Value → Option Addr → TS
def Ends.drop (D : Ends) (i : Nat) : Ends := { nx := fun σ' H' => D.nx (σ'.set i none) H', rt := D.rt, bk := fun σ' H' => D.bk (σ'.set i none) H', ct := fun σ' H' => D.ct (σ'.set i none) H' }
inductive ClsOk (X : Cx) : List ExceptHandler → List Cl → Prop
  | nil : ClsOk X [] []
  | one {te : Expr} {cs : Value → Option Bool} {ts : Addr → Value → Option Addr → TS} {b0 : Stmt} {su : List Stmt} {p : Pos} {hs : List ExceptHandler} {l : List Cl} (t : TestOk X te cs)
      (w : ∀ (a : Addr) (oe : Obj) (cls : Value) (d : Option Addr) (pn : List (Addr × Obj)), L2N.Zn cls d oe → (∃ vs, oe.data = .fields vs) → PSs (X.suite a ((a, oe) :: pn)) (b0 :: su) (ts a cls d)) (r : ClsOk X hs l) :
      ClsOk X (.ExceptHandler (some te) none (b0 :: su) p :: hs) (⟨cs, none, ts⟩ :: l)
  | as {te : Expr} {cs : Value → Option Bool} {ts : Addr → Value → Option Addr → TS} {b0 : Stmt} {su : List Stmt} {p : Pos} {hs : List ExceptHandler} {l : List Cl} {i : Nat} {nm : Str} (t : TestOk X te cs) (nd : X.N.Nodup) (hi : X.N[i]? = some nm) (hl : HName X nm)
      (w : ∀ (a : Addr) (oe : Obj) (cls : Value) (d : Option Addr) (pn : List (Addr × Obj)), L2N.Zn cls d oe → (∃ vs, oe.data = .fields vs) → PSs (X.suite a ((a, oe) :: pn)) (b0 :: su) (ts a cls d)) (r : ClsOk X hs l) :
      ClsOk X (.ExceptHandler (some te) (some nm) (b0 :: su) p :: hs) (⟨cs, some i, ts⟩ :: l)
section
variable {X : Cx} {body : List Stmt} {c0 : ExceptHandler} {hds : List ExceptHandler} {l : List Cl} {pos : Pos} {tb : WX → TS} {Wout : WX}
end
end DL
namespace DL
open PySem L2 PySem.Spec
def CatB (K : PySem.W.Frag) (mg : Str → Option Value) (tb : CT) (rt : List (Str × Bool)) (cs : Value → Option Bool) : Prop := ∀ c l, tb.lookup c = some l → ∃ C b, mg c = some (.ref C) ∧ rt.lookup c = some b ∧ cs (.ref C) = some b
def tsOf {ι : Type} (Xf : ι → Cx) (su : List Stmt) : Addr → Value → Option Addr → TS := fun a cls d D σ H => ∃ t : TS, (∀ b : SI Xf cls d, PSs (suF Xf a cls d b) su t) ∧ t D σ H
def sLost : Sf := fun _ => none
inductive ClD {ι : Type} (Xf : ι → Cx) (K : PySem.W.Frag) (mg : Str → Option Value) (M : Mk) (tb : CT) (mx : List Ty) (j : Nat) (mn : List Ty) : List ExceptHandler → List Cl → Sf → Prop
  | nil : ClD Xf K mg M tb mx j mn [] [] sLost
  | one {te : Expr} {cs : Value → Option Bool} {b0 : Stmt} {su : List Stmt} {p : Pos} {hs : List ExceptHandler} {l : List Cl} {f g : Sf} (rt : List (Str × Bool)) (t : ∀ i, TestOk (Xf i) te cs) (c : CatB K mg tb rt cs)
      (w : ∀ (a : Addr) (cls : Value) (d : Option Addr), PSsd (suF Xf a cls d) K M mx (b0 :: su) f mn) (r : ClD Xf K mg M tb mx j mn hs l g) :
      ClD Xf K mg M tb mx j mn (.ExceptHandler (some te) none (b0 :: su) p :: hs) (⟨cs, none, tsOf Xf (b0 :: su)⟩ :: l) (sIf (bT (e1 (gIsE rt) (eVar j))) f g)
  | as {te : Expr} {cs : Value → Option Bool} {b0 : Stmt} {su : List Stmt} {p : Pos} {hs : List ExceptHandler} {l : List Cl} {f g : Sf} {nm : Str} (rt : List (Str × Bool)) (t : ∀ i, TestOk (Xf i) te cs) (c : CatB K mg tb rt cs)
      (w : Suit Xf K mg M tb mx j (b0 :: su) f mn) (hN : ∀ i, (Xf i).N[j]? = some nm) (hl : ∀ i, HName (Xf i) nm) (r : ClD Xf K mg M tb mx j mn hs l g) :
      ClD Xf K mg M tb mx j mn (.ExceptHandler (some te) (some nm) (b0 :: su) p :: hs) (⟨cs, some j, tsOf Xf (b0 :: su)⟩ :: l) (sIf (bT (e1 (gIsE rt) (eVar j))) f g)
section
variable {ι : Type} {Xf : ι → Cx} {P : Program} {w : World} {K : PySem.W.Frag} {mg : Str → Option Value} {base : Heap} {n : Nat} [F : Fam Xf P w K mg base n]
variable {M : Mk} {m mn mx : List Ty} {pos : Pos} {body : List Stmt} {c0 : ExceptHandler} {hds : List ExceptHandler} {fb : Sf} {fs : Sf} {tb : CT} {j : Nat} {l : List Cl}
end
def sOff (f : Sf) : Sf := sSeq f (sRet (e1 gOk (eC .none)))
section
variable {ι : Type} {Xf : ι → Cx} {W : WX} {P : Program} {w : World} {K : PySem.W.Frag} {mg : Str → Option Value} {base : Heap} {n : Nat} [F : Fam Xf P w K mg base n]
variable {M : Mk} {m m1 m2 mn mx : List Ty} {pos p p2 spos : Pos} {a : Expr} {es : List Expr} {fr : Lf} {tys : List Ty} {L : List (Option Nat)} {tb : CT}
end
end DL
namespace DL
open PySem L2 PySem.Spec
@[simp] theorem rLost {e : En} : sLost e = none := rfl
@[simp] theorem rOff {f : Sf} {e : En} : sOff f e = sSeq f (sRet (e1 gOk (eC .none))) e := rfl
section
variable {ι : Type} {Xf : ι → Cx} {P : Program} {w : World} {K : PySem.W.Frag} {mg : Str → Option Value} {base : Heap} {n : Nat} [F : Fam Xf P w K mg base n]
variable {x1 x2 x3 x4 : Str} {c1 c2 c3 c4 : Value} {p1 p2 p3 p4 tp : Pos} {k : Nat}
end
end DL
namespace DL
open PySem L2 PySem.Spec
structure ExcZ (P : Program) (w : World) (K : PySem.W.Frag) (mg : Str → Option Value) (x : Str) : Prop where
  ex : ∃ C : Addr, mg x = some (.ref C) ∧ ∀ (X : Cx) (p pos : Pos), X.prog = P → X.w = w → X.K = K → X.mg = mg → Gl X x → (x == ("__debug__" : Str)) = false → L2N.PMk X (.Call (.Name x p) [] [] pos) (fun _ H Q => Q (.ref C) none H)
section
variable {ι : Type} {Xf : ι → Cx} {W : WX} {P : Program} {w : World} {K : PySem.W.Frag} {mg : Str → Option Value} {base : Heap} {n : Nat} [F : Fam Xf P w K mg base n]
variable {M : Mk} {m mn mx : List Ty} {pos p spos : Pos} {tb : CT}
end
end DL
namespace DL
open PySem L2 PySem.Spec
def eOrT (f g : Ef) : Ef := fun e => (f e).bind fun p => (gTruth p.1).bind fun b => if b = true then some p else g p.2
@[simp] theorem rOrT {f g : Ef} {e : En} : eOrT f g e = (f e).bind fun p => (gTruth p.1).bind fun b => if b = true then some (p.1, p.2) else g p.2 := rfl
section
variable {ι : Type} {Xf : ι → Cx} {P : Program} {w : World} {K : PySem.W.Frag} {mg : Str → Option Value} {base : Heap} {n : Nat} [F : Fam Xf P w K mg base n]
variable {m m1 : List Ty} {pos : Pos} {a b : Expr} {f g : Ef} {rest : List Expr}
include F in
theorem pd_orT (ha : PD Xf K m a .s f m1) (hb : PD Xf K m1 (.BoolOp .Or (b :: rest) pos) .s g m1) : PD Xf K m (.BoolOp .Or (a :: b :: rest) pos) .s (eOrT f g) m1 := by
  obtain ⟨ta, pa, da⟩ := ha.ex
  obtain ⟨tb, pb, db⟩ := hb.ex
  refine ⟨tOrT K ta tb, fun i => by have := pe_orT (pa i) (pb i); rw [F.kk i] at this; exact this, fun {G H σ e A d e' Q} st hf k => ?_⟩
  obtain ⟨⟨d1, e1⟩, hf1, hf⟩ := oBs hf
  obtain ⟨c, hc, hf⟩ := oBs hf
  refine da st hf1 fun G1 H1 v1 A1 B1 s1 st1 o1 nd1 => ?_
  cases o1 with
  | s q1 =>
    refine ⟨c, truV_of q1 st1.sub hc, ?_⟩
    cases c with
    | true => cases hf; exact k _ _ _ _ _ s1 st1 (.s q1) nd1
    | false => exact db st1 hf fun G2 H2 v2 A2 B2 s2 st2 o2 nd2 => k _ _ _ _ _ (s1.seq0 s2) st2 o2 nd2
end
end DL
namespace DL
open PySem L2 PySem.Spec
def xUn (gg : PyData → Option PyData) (fx : EfX) : EfX := fun e => (fx e).bind fun p => match p.1 with
  | .ok d => (gg d).bind fun r => some (.ok r, p.2)
  | .ex c fs => some (.ex c fs, p.2)
def sRetE1 (tw : CT) (gg : PyData → Option PyData) (f : Ef) : Sf := fun e => (f e).bind fun p => (gIsOk tw p.1).bind fun w => (asB w).bind fun b => if b = true then (gUn p.1).bind fun d => (gg d).bind fun r => (gOk r).bind fun z => some (.rt z, p.2) else some (.rt p.1, p.2)
@[simp] theorem rRetE1 {tw : CT} {gg : PyData → Option PyData} {f : Ef} {e : En} : sRetE1 tw gg f e = (f e).bind fun p => (gIsOk tw p.1).bind fun w => (asB w).bind fun b => if b = true then (gUn p.1).bind fun d => (gg d).bind fun r => (gOk r).bind fun z => some (.rt z, p.2) else some (.rt p.1, p.2) := rfl
section
variable {K : PySem.W.Frag} {mg : Str → Option Value} {m m1 : List Ty} {W : WX} {fx : EfX} {ty : Ty} {gg : PyData → Option PyData}
theorem DEX.un {r : V → Hp → VK → Prop} {ta : TE} (ha : DEX K mg m ta .s fx m1 W) (hr : D1 K r ty gg) : DEX K mg m (fun σ H Q => ta σ H fun x H1 => r x H1 Q) ty (xUn gg fx) m1 W := by
  intro G H σ e A res e' Q st hf k
  obtain ⟨⟨r1, e1⟩, hf1, hf⟩ := oBs hf
  refine ha st hf1 ?_
  cases r1 with
  | ok d =>
    obtain ⟨d3, hf3, hf⟩ := oBs (show (gg d).bind _ = _ from hf)
    cases hf
    intro G1 H1 v1 A1 B1 s1 st1 o1 nd1
    cases o1 with
    | s q1 => exact hr st1 q1 hf3 fun G3 H3 v3 A3 B3 s3 st3 o3 nd3 => k G3 H3 v3 A3 B3 (s1.seq0 s3) st3 o3 nd3
  | ex c fs => cases hf; exact k
end
section
variable {ι : Type} {Xf : ι → Cx} {W : WX} {P : Program} {w : World} {K : PySem.W.Frag} {mg : Str → Option Value} {base : Heap} {n : Nat} [F : Fam Xf P w K mg base n]
variable {M : Mk} {m m1 mn mx : List Ty} {pos p p2 p3 cp : Pos} {a : Expr} {es : List Expr} {fr : Lf} {tys : List Ty} {L : List (Option Nat)} {tb tw tG : CT} {fx : EfX} {Fn : DFn} {gg : PyData → Option PyData} {ty : Ty}
end
end DL
namespace DL
open PySem L2 PySem.Spec
def gUpdE (d s : PyData) : Option PyData := match d, s with
  | .dict kvs, .dict more => (dictI kvs).bind fun ds => (dictI more).bind fun es => if kvs.length + es.length < 100000 then some (.dict ((joinI es ds).map kvD)) else none
  | _, _ => none
def gDKeys (d : PyData) : Option PyData := match d with
  | .dict kvs => some (.list (kvs.map (·.1)))
  | _ => none
def eDKeys (j : Nat) : Ef := fun e => (gDKeys (e.getD j .none)).bind fun d => some (d, e)
@[simp] theorem rDKeys {j : Nat} {e : En} : eDKeys j e = (gDKeys (e.getD j .none)).bind fun d => some (d, e) := rfl
def eUpdE (j : Nat) (f : Ef) : Ef := fun e => (f e).bind fun p => (gUpdE (p.2.getD j .none) p.1).bind fun d => some (.none, p.2.set j d)
@[simp] theorem rUpdE {j : Nat} {f : Ef} {e : En} : eUpdE j f e = (f e).bind fun p => (gUpdE (p.2.getD j .none) p.1).bind fun d => some (.none, p.2.set j d) := rfl
section
variable {K : PySem.W.Frag} {G H G1 H1 : Hp} {m m1 m2 mn : List Ty} {σ : St} {e : En} {A A1 : List Addr} {t : Ty} {ts : List Ty}
end
section
variable {ι : Type} {Xf : ι → Cx} {P : Program} {w : World} {K : PySem.W.Frag} {mg : Str → Option Value} {base : Heap} {n : Nat} [F : Fam Xf P w K mg base n]
variable {m m1 m2 m3 : List Ty} {pos p p2 apos cpos xp : Pos} {a b c e : Expr} {f g h : Ef}
end
end DL
namespace DL
open PySem L2 PySem.Spec
section
variable {K : PySem.W.Frag} {G H : Hp} {m : List Ty} {σ : St} {e : En} {A : List Addr}
end
def zipNS : PyData → PyData → Option (List PyData)
  | .list xs, .tuple ys => some (zipD xs ys)
  | _, _ => none
def iZpN (f g : Ef) : Lf := fun e => (f e).bind fun p => (g p.2).bind fun q => (zipNS p.1 q.1).bind fun ds => some (ds, q.2)
section
variable {ι : Type} {Xf : ι → Cx} {P : Program} {w : World} {K : PySem.W.Frag} {mg : Str → Option Value} {base : Heap} {n : Nat} [F : Fam Xf P w K mg base n]
variable {m m1 m2 m3 : List Ty} {pos p p2 tpos : Pos} {a b c tg : Expr} {elts : List Expr} {kk : Nat} {f g h : Ef}
include F
end
@[simp] theorem riZpN {f g : Ef} {e : En} : iZpN f g e = (f e).bind fun p => (g p.2).bind fun q => (zipNS p.1 q.1).bind fun ds => some (ds, q.2) := rfl
@[simp] theorem xZipN {xs ys : List PyData} : zipNS (.list xs) (.tuple ys) = some (zipD xs ys) := rfl
end DL
namespace DL
open PySem L2 PySem.Spec
section
open PySem.Calls PyProof.Rows PyProof.V
end
def intVal : PyData → Option Int
  | .int i => some i
  | _ => none
def sameI : List (Int × PyData) → List (Int × PyData) → Option Bool
  | [], _ => some true
  | p :: r, es => (intVal p.2).bind fun i => match valI es p.1 with
    | none => some false
    | some d => (intVal d).bind fun j => (sameI r es).map fun b => (i == j) && b
def gDNe (a b : PyData) : Option PyData := match a, b with
  | .dict ka, .dict kb => (dictI ka).bind fun ds => (dictI kb).bind fun es => if ds.length = es.length then (sameI ds es).map fun r => .bool (!r) else some (.bool true)
  | _, _ => none
def eDNe (j : Nat) (f : Ef) : Ef := fun e => (f e).bind fun p => (gDNe p.1 (p.2.getD j .none)).bind fun d => some (d, p.2)
@[simp] theorem stb_dict : stb Ty.d = false := rfl
@[simp] theorem rDNe {j : Nat} {f : Ef} {e : En} : eDNe j f e = (f e).bind fun p => (gDNe p.1 (p.2.getD j .none)).bind fun d => some (d, p.2) := rfl
section
variable {K : PySem.W.Frag} {G H G1 H1 : Hp} {m m1 m2 mn : List Ty} {σ : St} {e : En} {A A1 : List Addr} {t : Ty} {ts : List Ty}
end
section
variable {ι : Type} {Xf : ι → Cx} {P : Program} {w : World} {K : PySem.W.Frag} {mg : Str → Option Value} {base : Heap} {n : Nat} [F : Fam Xf P w K mg base n]
variable {m m1 m2 m3 : List Ty} {pos p p2 apos cpos xp : Pos} {a b c e : Expr} {f g h : Ef}
end
end DL
namespace DL
open PySem L2 PySem.Spec
section
open PyProof.Rows PySem.Calls
variable {prog : Program} {w : World} {A : Around} {E : Value → Shared → Prop} {s : Shared} {K : PySem.W.Frag} {x C f : Addr} {ox : Obj} {odd : Option Obj}
end
section
variable {ι : Type} {Xf : ι → Cx} {P : Program} {w : World} {K : PySem.W.Frag} {mg : Str → Option Value} {base : Heap} {n : Nat} [F : Fam Xf P w K mg base n] [FG : FamG Xf]
variable {m m1 : List Ty} {pos p xp : Pos} {fr : Lf} {tys : List Ty} {L : List (Option Nat)} {C : Addr} {ns : List Str} {ts : List Ty}
end
end DL
namespace DL
open PySem L2 PySem.Spec
def gFmt : PyData → Option PyData
  | .int i => if i.natAbs.log2 < 1920 ∧ (toString i : Str).length ≤ sizeLine then some (.str (toString i)) else none
  | .str z => some (.str z)
  | _ => none
def joinS : Str → List PyData → Option Str
  | acc, [] => some acc
  | acc, .str y :: r => if (acc ++ y).length ≤ sizeLine then joinS (acc ++ y) r else none
  | _, _ :: _ => none
def gJs (ds : List PyData) : Option PyData := (joinS Str.empty ds).bind fun x => if x.length ≤ sizeLine then some (.str x) else none
def eJs (lf : Lf) : Ef := fun e => (lf e).bind fun p => (gJs p.1).bind fun d => some (d, p.2)
@[simp] theorem rJs {lf : Lf} {e : En} : eJs lf e = (lf e).bind fun p => (gJs p.1).bind fun d => some (d, p.2) := rfl
section
variable {ι : Type} {Xf : ι → Cx} {P : Program} {w : World} {K : PySem.W.Frag} {mg : Str → Option Value} {base : Heap} {n : Nat} [F : Fam Xf P w K mg base n]
variable {m m1 m2 : List Ty} {pos p : Pos} {a v1 v2 : Expr} {es rest : List Expr} {f : Ef} {lf : Lf}
structure PJD (Xf : ι → Cx) (K : PySem.W.Frag) (m : List Ty) (es : List Expr) (lf : Lf) (m1 : List Ty) : Prop where
  ex : ∃ ts : List TE, (∀ i, PJ (Xf i) es ts) ∧ ∀ {G H : Hp} {σ : St} {e e' : En} {A : List Addr} {ds : List PyData} {acc out : Str} {Q : Str → Hp → Prop}, Stt K m G H σ e A → lf e = some (ds, e') → joinS acc ds = some out →
    (∀ G' H' A', Step A G H A' G' H' → Stt K m1 G' H' σ e' A' → Q out H') → tJs ts acc σ H Q
end
end DL
namespace DL
open PySem L2 PySem.Spec
section
open PyProof.Rows
variable {X : Cx} {e : Expr} {te : TE} {p apos cpos pos : Pos}
end
section
variable {K : PySem.W.Frag} {G H G1 H1 : Hp} {m m1 m2 mn : List Ty} {σ : St} {e : En} {A A1 : List Addr}
end
section
variable {ι : Type} {Xf : ι → Cx} {P : Program} {w : World} {K : PySem.W.Frag} {mg : Str → Option Value} {base : Heap} {n : Nat} [F : Fam Xf P w K mg base n]
variable {m m1 : List Ty} {pos p apos cpos : Pos} {a : Expr} {f : Ef}
end
end DL
namespace DL
open PySem L2 PySem.Spec
def spY (K : PySem.W.Frag) (mg : Str → Option Value) (ptys : List Ty) (rty : Ty) (tb : CT) (Fn : DFn) : Sp := fun vs H Q E =>
  ∃ (ds : List PyData) (d : PyData) (fs : List PyData) (r : Res) (G : Hp) (A : List Addr), Fn ds = some (d, fs) ∧ decR tb d = some r ∧ OwnA K G H ptys ds (vs.map some) A ∧ A.Nodup ∧ Same G H ∧ match r with
    | .ok d1 => ∀ (G' H' : Hp) (v : V) (Av A' : List Addr), Step A G H (Av ++ A') G' H' → OwnA K G' H' ptys fs (vs.map some) A' → Own K G' H' rty d1 (some v) Av → (Av ++ A').Nodup → Same G' H' → Q v H'
    | .ex c fl => ∀ (G' H' : Hp) (A' : List Addr) (cls : Value) (dx : Option Addr), Step A G H A' G' H' → OwnA K G' H' ptys fs (vs.map some) A' → A'.Nodup → ExAt K mg G' c fl cls dx → Same G' H' → E cls dx H'
structure CalMX (P : Program) (w : World) (K : PySem.W.Frag) (mg : Str → Option Value) (base : Heap) (k : Nat) (C : Addr) (x : Str) (ptys : List Ty) (rty : Ty) (tb : CT) (Fn : DFn) : Prop where
  ex : ∃ (f : Addr) (fd : FuncData) (ps : List Str), FnX P w K mg base k f fd ps (spY K mg ptys rty tb Fn) ∧ Meth K C x f ∧ Binds K fd ps []
def xDec (tb : CT) (call : Ef) : EfX := fun e => (call e).bind fun p => (decR tb p.1).bind fun q => some (q, p.2)
section
variable {K : PySem.W.Frag} {mg : Str → Option Value} {m m1 m2 : List Ty} {fr : Lf} {tys : List Ty} {L : List (Option Nat)} {W : WX} {tb : CT}
end
section
variable {ι : Type} {Xf : ι → Cx} {P : Program} {w : World} {K : PySem.W.Frag} {mg : Str → Option Value} {base : Heap} {n : Nat} [F : Fam Xf P w K mg base n] [FG : FamG Xf] {W : WX}
variable {m m1 : List Ty} {pos apos xp : Pos} {a : Expr} {es : List Expr} {fr : Lf} {tys : List Ty} {L : List (Option Nat)} {C : Addr} {ns : List Str} {ts : List Ty} {tb : CT}
end
def RelC (tw tG : CT) (call : Ef) (fx : EfX) : Prop := ∀ e v e9 r, call e = some (v, e9) → decR tG v = some r → fx e = some (r, e9)
theorem relC_dec {tw tG : CT} {call : Ef} : RelC tw tG call (xDec tG call) := fun e v e9 r h hr => by
  unfold xDec
  rw [h, Option.bind_some]
  show ((decR tG v).bind fun q => some (q, e9)) = _
  rw [hr]; rfl
def sAsgE1 (tw : CT) (j : Nat) (gg : PyData → Option PyData) (f : Ef) : Sf := fun e => (f e).bind fun p => (gIsOk tw p.1).bind fun w => (asB w).bind fun b => if b = true then (gUn p.1).bind fun d => (gg d).bind fun r => some (.nx, p.2.set j r) else some (.rt p.1, p.2)
def gLit (z : Str) (d : PyData) : Option PyData := some (.list [.str z, d])
section
variable {tw tG tb : CT} {j : Nat} {call : Ef} {fx : EfX}
theorem relC_asgL {z : Str} (R : RelC tw tG call fx) (sG : SubT tw tG) (sb : SubT tw tb) (e : En) (r : OutX × En) (h : decX tb (sAsgE1 tw j (gLit z) call) e = some r) : xAsgX j (xLst2 (eC (.str z)) fx) e = some r := by
  obtain ⟨⟨o, e1⟩, h1, h2⟩ := oBs h
  obtain ⟨⟨v, ex⟩, h3, h4⟩ := oBs h1
  obtain ⟨w, h5, h6⟩ := oBs h4
  obtain ⟨b, h7, h8⟩ := oBs h6
  rcases isOk_of h5 with ⟨d, hv, rfl⟩ | ⟨c, vs, l, hv, hl1, hl2, rfl⟩
  · have hv : v = .list [d] := hv
    subst hv
    cases h7
    rw [if_pos rfl] at h8
    cases h8
    cases h2
    unfold xAsgX xLst2 eC
    simp only [Option.bind_some]
    rw [R _ _ _ (.ok d) h3 rfl]; rfl
  · have hv : v = .tuple (.str c :: vs) := hv
    subst hv
    cases h7
    rw [if_neg (by simp)] at h8
    cases h8
    obtain ⟨r1, h9, h10⟩ := oBs h2
    rw [dec_in sb hl1 hl2] at h9
    cases h9
    cases h10
    unfold xAsgX xLst2 eC
    simp only [Option.bind_some]
    rw [R _ _ _ _ h3 (dec_in sG hl1 hl2)]; rfl
end
section
variable {ι : Type} {Xf : ι → Cx} {W : WX} {P : Program} {w : World} {K : PySem.W.Frag} {mg : Str → Option Value} {base : Heap} {n : Nat} [F : Fam Xf P w K mg base n]
variable {M : Mk} {m m1 m2 mn mx ml : List Ty} {pos p p2 p3 cp spos np np2 pos' zp lp : Pos} {v : Expr} {fx : EfX} {call : Ef} {tb tw tG : CT} {rty ty : Ty} {z : Str} {jz : Nat}
include F in
theorem exr_asgL [FG : FamG Xf] {y : Str} (j : Nat) (hv : PDX Xf W K mg m v .s fx m1) (R : RelC tw tG call fx) (sG : SubT tw tG) (sb : SubT tw tb) (lx : LeM m1 mx) (hz : z.length ≤ sizeLine := by decide +kernel)
    (hs1 : ∀ i, starEach [.Constant (.str z) jz zp, v] (Xf i).env = (false, eval (.Constant (.str z) jz zp) (Xf i).env) :: starEach [v] (Xf i).env := by intro _; rfl) (hs2 : ∀ i, starEach [v] (Xf i).env = (false, eval v (Xf i).env) :: starEach [] (Xf i).env := by intro _; rfl)
    (hj : j < m1.length := by first | decide | rfl | simp) (hp : j ∉ M.po := by first | decide | rfl | simp) (hi : ∀ i, (Xf i).N[j]? = some y := by intro _; rfl) (hx : ∀ i, Loc (Xf i).env.scope y := by first | (intro _; exact Or.inl rfl) | (intro _; exact Or.inr rfl))
    (hs : ∀ i, swapsWith (.List [.Constant (.str z) jz zp, v] lp) (some (.Name y np)) p2.line (Xf i).env = pure false := by intro _; rfl) (hf : ∀ i, (Xf i).fn y = true ∨ (Xf i).env.scope.names.lookup y = some .local := by first | (intro _; exact Or.inl rfl) | (intro _; exact Or.inr rfl)) :
    PSX Xf W K mg M mx m (.Assign [.Name y np] (.List [.Constant (.str z) jz zp, v] lp) p2) (decX tb (sAsgE1 tw j (gLit z) call)) (m1.set j (.l .s)) :=
  sx_mono (sx_lex (sx_asg j (px_lst2 (pd_str hz) hv hs1 hs2) hj hp hi hx hs hf) lx) (relC_asgL R sG sb)
end
end DL
namespace DL
open PySem L2 PySem.Spec
section
variable {K : PySem.W.Frag} {m : List Ty} {G H G' H' : Hp} {σ : St} {e : En} {A : List Addr}
theorem rd_stt (st : Stt K m G H σ e A) (s : Step [] G H [] G' H') (sub : Same G' H') : Step A G H A G' H' ∧ Stt K m G' H' σ e A := by
  have s0 : Step A G H (A ++ []) G H := by rw [List.append_nil]; exact Step.refl
  obtain ⟨s1, nd1, hg, hh⟩ := s0.seq (ownA_at st.own) (by rw [List.append_nil]; exact st.nd) s List.nodup_nil
  rw [List.append_nil] at s1
  exact ⟨s1, ownA_fr st.own s.sg hg hh, st.nd, sub⟩
end
def DRV (K : PySem.W.Frag) (m : List Ty) (te : TE) (f : Ef) : Prop := ∀ {G H : Hp} {σ : St} {e : En} {A : List Addr} {d : PyData} {e' : En} {Q : VK}, Stt K m G H σ e A → f e = some (d, e') →
  (e' = e → ∀ (G' H' : Hp) (v : V), Step [] G H [] G' H' → Same G' H' → Dq K G' v d → Q v H') → te σ H Q
def DRL (K : PySem.W.Frag) (m : List Ty) (k : Nat) (ta : TA) (f : Lf) : Prop := ∀ {G H : Hp} {σ : St} {e : En} {A : List Addr} {ds : List PyData} {e' : En} {Q : List V → Hp → Prop}, Stt K m G H σ e A → f e = some (ds, e') →
  (e' = e → ds.length = k → ∀ (G' H' : Hp) (vs : List V), Step [] G H [] G' H' → Same G' H' → DqA K G' vs ds → Q vs H') → ta σ H Q
def DRX (K : PySem.W.Frag) (mg : Str → Option Value) (m : List Ty) (te : TE) (f : EfX) (W : WX) : Prop := ∀ {G H : Hp} {σ : St} {e : En} {A : List Addr} {r : Res} {e' : En} {Q : VK}, Stt K m G H σ e A → f e = some (r, e') →
  (match r with
  | .ok d => e' = e → ∀ (G' H' : Hp) (v : V), Step [] G H [] G' H' → Same G' H' → Dq K G' v d → Q v H'
  | .ex c fs => e' = e → ∀ (G' H' : Hp) (cls : Value) (dx : Option Addr), Step [] G H [] G' H' → Same G' H' → ExAt K mg G' c fs cls dx → W cls dx σ H') → te σ H Q
structure PRV {ι : Type} (Xf : ι → Cx) (K : PySem.W.Frag) (m : List Ty) (a : Expr) (f : Ef) : Prop where
  ex : ∃ te : TE, (∀ i, PE (Xf i) a te) ∧ DRV K m te f
structure PRL {ι : Type} (Xf : ι → Cx) (K : PySem.W.Frag) (m : List Ty) (k : Nat) (es : List Expr) (f : Lf) : Prop where
  ex : ∃ ta : TA, (∀ i, PA (Xf i) es ta) ∧ DRL K m k ta f
structure PRX {ι : Type} (Xf : ι → Cx) (W : WX) (K : PySem.W.Frag) (mg : Str → Option Value) (m : List Ty) (a : Expr) (f : EfX) : Prop where
  ex : ∃ te : TE, (∀ i, PE (Xf i) a te) ∧ DRX K mg m te f W
section
variable {K : PySem.W.Frag} {mg : Str → Option Value} {m : List Ty} {f g : Ef} {fr : Lf} {k : Nat} {W : WX}
theorem grow_step {G H H1 : Hp} (s : Same H H1) : Step [] G H [] G H1 := ⟨Same.refl G, fun a o h _ => s a o h, fun _ h => .inl h, fun a h ⟨o, z⟩ => by rw [h] at z; cases z⟩
theorem DRV.itm {te ti : TE} {g gi : Gq} {pt : Pf} (hp : DPl K m te (.l .s) g pt) (hi : DQv K m ti gi) : DRV K m (tOp (rIxL K) te ti) (eItm g gi) := by
  intro G H σ e A d e' Q st hf kk
  obtain ⟨dl, h1, hf⟩ := oBs hf
  obtain ⟨di, h2, hf⟩ := oBs hf
  obtain ⟨a, Ad, Ar, hp1, o1, ev, back⟩ := hp st h1
  cases o1 with
  | @l _ _ vs ds Ai ga ha hz oi =>
    cases di with
    | int i =>
      obtain ⟨x, hx, hf⟩ := Option.map_eq_some_iff.mp hf
      cases hf
      obtain ⟨j, hj, hx⟩ := oBs (show (ixN ds.length i).bind _ = _ from hx)
      obtain ⟨rfl, qi⟩ := of_ownA oi
      obtain ⟨v, hv, qv⟩ := qi.get hx
      refine ev fun H1 s1 => hi (stt_grow st s1).2 h2 fun H2 y s2 qy => ?_
      cases qy
      have s12 := s1.trans s2
      exact ⟨a, vs, i, v, rfl, rfl, .inl (.inl (s12 _ _ ha)), by unfold atI; rw [qi.1, hj]; exact hv, kk rfl G H2 v (grow_step s12) (fun b o hb => s12 _ _ (st.sub b o hb)) qv⟩
    | _ => cases hf
theorem DRL.nil : DRL K m 0 tNil lNil := by
  intro G H σ e A ds e' Q st hf kk
  cases hf
  exact kk rfl rfl G H [] Step.refl st.sub DqA.nil
theorem DRL.cons {te : TE} {ta : TA} (h1 : DRV K m te f) (h2 : DRL K m k ta fr) : DRL K m (k + 1) (tCons te ta) (lCons f fr) := by
  intro G H σ e A ds e' Q st hf kk
  obtain ⟨⟨d1, e1⟩, hf1, hf⟩ := oBs hf
  obtain ⟨⟨ds1, e2⟩, hf2, hf⟩ := oBs hf
  cases hf
  refine h1 st hf1 fun z1 G1 H1 v s1 sub1 q1 => ?_
  subst z1
  obtain ⟨s1', st1⟩ := rd_stt st s1 sub1
  refine h2 st1 hf2 fun z2 l2 G2 H2 vs s2 sub2 q2 => ?_
  refine kk z2 (by rw [List.length_cons, l2]) G2 H2 (v :: vs) (s1.seq0 s2) sub2 (DqA.cons (q1.mono s2.sg) q2)
theorem DRV.call {ta : TA} {Fn : DFn} {tys : List Ty} (h : DRL K m k ta fr) (ht : tys = List.replicate k .s) : DRV K m (tCallG (spD K tys .s Fn) ta) (eCall Fn fr) := by
  intro G H σ e A d e' Q st hf kk
  obtain ⟨⟨ds, e1⟩, hf1, hf⟩ := oBs hf
  obtain ⟨⟨d1, fs⟩, hf2, hf⟩ := oBs hf
  cases hf
  refine h st hf1 fun z1 l1 G1 H1 vs s1 sub1 q1 => ?_
  subst ht l1
  refine ⟨ds, _, fs, G1, [], hf2, ownA_of q1, List.nodup_nil, sub1, fun G2 H2 v Av A' s2 o2 ov nd2 sub2 => ?_⟩
  have z : A' = [] := stab_nil o2 fun t ht => by rw [(List.mem_replicate.mp ht).2]; rfl
  subst z
  cases ov with
  | s q => exact kk z1 G2 H2 v (s1.seq0 s2) sub2 q
theorem DRX.call {ta : TA} {Fn : DFnX} {tys : List Ty} (h : DRL K m k ta fr) (ht : tys = List.replicate k .s) : DRX K mg m (tCallS (spX K mg tys .s Fn) (WE W) ta) (xCall Fn fr) W := by
  intro G H σ e A r e' Q st hf kk
  obtain ⟨⟨ds, e1⟩, hf1, hf⟩ := oBs hf
  obtain ⟨r1, hf2, hf⟩ := oBs hf
  cases hf
  refine h st hf1 fun z1 l1 G1 H1 vs s1 sub1 q1 => ?_
  subst ht l1
  refine ⟨ds, _, G1, hf2, ownA_of q1, sub1, ?_⟩
  cases r with
  | ok d =>
    intro G2 H2 v Av s2 ov nd2 sub2
    cases ov with
    | s q => exact kk z1 G2 H2 v (s1.seq0 s2) sub2 q
  | ex c fs =>
    intro G2 H2 cls dx s2 ex sub2
    exact kk z1 G2 H2 cls dx (s1.seq0 s2) sub2 ex
section
variable {ts : List Ty} {ns : List Str} {C : Addr} {fl : Str} {j : Nat}
end
end
section
variable {ι : Type} {Xf : ι → Cx} {P : Program} {w : World} {K : PySem.W.Frag} {mg : Str → Option Value} {base : Heap} {n : Nat} [F : Fam Xf P w K mg base n]
variable {m m1 : List Ty} {pos p xp fpos apos cpos : Pos} {a b v : Expr} {es : List Expr} {f : Ef} {fr : Lf} {k : Nat} {g gi : Gq} {pt : Pf} {tys : List Ty} {W : WX} {fx : EfX}
variable {ts : List Ty} {ns : List Str} {C : Addr} {fl : Str}
end
def sAppE (tw : CT) (j k : Nat) (call : Ef) : Sf := fun e => (call e).bind fun p => (gIsOk tw p.1).bind fun w => (asB w).bind fun b => if b = true then (gUn p.1).bind fun d => (gAppF k (e.getD j .none) d).bind fun d2 => some (.nx, p.2.set j d2) else some (.rt p.1, p.2)
section
variable {ι : Type} {Xf : ι → Cx} {W : WX} {P : Program} {w : World} {K : PySem.W.Frag} {mg : Str → Option Value} {base : Heap} {n : Nat} [F : Fam Xf P w K mg base n]
variable {M : Mk} {m m1 mx : List Ty} {p2 : Pos} {v : Expr} {fx : EfX} {call : Ef} {tb tw tG : CT} {j k : Nat}
end
structure CalMK (P : Program) (w : World) (K : PySem.W.Frag) (mg : Str → Option Value) (base : Heap) (k : Nat) (C : Addr) (x kw : Str) (ty0 : Ty) (rty : Ty) (Fn : DFn) : Prop where
  ex : ∃ (f : Addr) (fd : FuncData) (ps : List Str) (ds : List Value), FnG P w K mg base k f fd ps (spD K [ty0, .s] rty Fn) ∧ Meth K C x f ∧ Vals [V.non] ds ∧ Binds K fd ps ds ∧ ∀ (s : Shared) (u v : Value), BindsTo s fd ⟨[u], [(kw, v)]⟩ (ps.zip [u, v])
section
variable {ι : Type} {Xf : ι → Cx} {P : Program} {w : World} {K : PySem.W.Frag} {mg : Str → Option Value} {base : Heap} {n : Nat} [F : Fam Xf P w K mg base n] [FG : FamG Xf]
variable {m : List Ty} {pos apos xp : Pos} {C : Addr} {ns : List Str} {ts : List Ty} {ty0 : Ty}
end
structure CalYF (P : Program) (w : World) (K : PySem.W.Frag) (mg : Str → Option Value) (base : Heap) (k : Nat) (x : Str) (ptys : List Ty) (rty : Ty) (tb : CT) (Fn : DFn) : Prop where
  ex : ∃ (f : Addr) (fd : FuncData) (ps : List Str), FnX P w K mg base k f fd ps (spY K mg ptys rty tb Fn) ∧ mg x = some (.ref f) ∧ PySem.W.keepIn K (.ref f) = true ∧ Binds K fd ps []
section
variable {ι : Type} {Xf : ι → Cx} {W : WX} {P : Program} {w : World} {K : PySem.W.Frag} {mg : Str → Option Value} {base : Heap} {n : Nat} [F : Fam Xf P w K mg base n] [FG : FamG Xf]
variable {m m1 : List Ty} {pos p : Pos} {a : Expr} {es : List Expr} {fr : Lf} {tys : List Ty} {L : List (Option Nat)} {tb : CT}
end
end DL
namespace DL
open PySem L2 PySem.Spec
structure PinX (outer : List Env) (H : Hp) (s : Shared) (a : Addr) (oe : Obj) : Prop where
  get : s.heap.get? a = some oe
  free : H a = none
  nofs : a ∉ frs outer
  nocell : ∀ v, oe.data ≠ .cell v
structure FnW (P : Program) (w : World) (K : PySem.W.Frag) (mg : Str → Option Value) (base : Heap) (k : Nat) (f : Addr) (fd : FuncData) (ps : List Str) (a : Addr) (cls : Value) (d : Option Addr) (sp : Sp) : Prop where
  len : ∀ vs H Q E, sp vs H Q E → vs.length = ps.length
  run : ∀ (A : Around) (outer : List Env) (s : Shared) (H : Hp) (args : Args) (us : List Value) (vs : List V) (Q : VK) (E : XK) (oe : Obj), RoomU k A → A.guards = some [] → A.handled = some (.ref a) → PinX outer H s a oe → L2N.Zn cls d oe → (∃ xs, oe.data = .fields xs) → Env0 P w K mg base A outer s H → BindsTo s fd args (ps.zip us) → Vals vs us → sp vs H Q E →
    codeAny (model P w) A (.call (.ref f) args) (CR CX0 outer P w H s Q E) s
structure CalW (P : Program) (w : World) (K : PySem.W.Frag) (mg : Str → Option Value) (base : Heap) (k : Nat) (x : Str) (ptys : List Ty) (rty : Ty) (Fn : DFn) (a : Addr) (cls : Value) (d : Option Addr) : Prop where
  ex : ∃ (f : Addr) (fd : FuncData) (ps : List Str), FnW P w K mg base k f fd ps a cls d (spD K ptys rty Fn) ∧ mg x = some (.ref f) ∧ PySem.W.keepIn K (.ref f) = true ∧ Binds K fd ps []
section
variable {ι : Type} {Xf : ι → Cx} {P : Program} {w : World} {K : PySem.W.Frag} {mg : Str → Option Value} {base : Heap} {n : Nat} [F : Fam Xf P w K mg base n] [FD : FamD Xf] {a0 : Addr} {cls : Value} {d0 : Option Addr}
variable {m m1 : List Ty} {pos p : Pos} {a : Expr} {es : List Expr} {fr : Lf} {tys : List Ty} {L : List (Option Nat)}
end
end DL
namespace DL
open PySem L2 PySem.Spec
def eLstP (g : Gq) : Ef := fun e => (g e).bind fun d => (gList d).bind fun r => some (r, e)
section
variable {K : PySem.W.Frag} {m : List Ty} {g : Gq} {pt : Pf}
end
section
variable {ι : Type} {Xf : ι → Cx} {P : Program} {w : World} {K : PySem.W.Frag} {mg : Str → Option Value} {base : Heap} {n : Nat} [F : Fam Xf P w K mg base n]
variable {m : List Ty} {pos p : Pos} {a : Expr} {g : Gq} {pt : Pf}
end
end DL
namespace DL
open PySem L2 PySem.Spec PyProof.Rows
def strsOf : List PyData → Option (List Str)
  | [] => some []
  | .str z :: r => (strsOf r).map (z :: ·)
  | _ :: _ => none
theorem strsOf_map (zs : List Str) : strsOf (zs.map .str) = some zs := by
  induction zs with
  | nil => rfl
  | cons z zs ih => rw [List.map_cons, strsOf, ih]; rfl
theorem strsOf_eq : ∀ {ds : List PyData} {zs : List Str}, strsOf ds = some zs → ds = zs.map .str
  | [], zs, h => by cases h; rfl
  | d :: r, zs, h => by
    cases d with
    | str z =>
      rw [strsOf] at h
      obtain ⟨ys, h1, rfl⟩ := Option.map_eq_some_iff.mp h
      rw [strsOf_eq h1]; rfl
    | _ => cases h
def gSplit : PyData → PyData → Option PyData
  | .str a, .str b => if (b.length == 0) = false ∧ a.length + 2 ≤ sizeLine ∧ (Txt.split a b).all (fun z => decide (z.length ≤ sizeLine)) = true then some (.list ((Txt.split a b).map .str)) else none
  | _, _ => none
def joinD (a : Str) (ds : List PyData) : Option PyData := (strsOf ds).bind fun zs => if (zs.map (·.length)).sum + zs.length * a.length ≤ 16777216 ∧ (Txt.join a zs).length ≤ sizeLine then some (.str (Txt.join a zs)) else none
def gJoin : PyData → PyData → Option PyData
  | .str a, .list ds => joinD a ds
  | .str a, .tuple ds => joinD a ds
  | _, _ => none
def gIntS : PyData → Option PyData
  | .str a => if a.length ≤ 640 then (PySem.intText? a).map .int else none
  | _ => none
def oneS (z : Str) : Option Nat := match z.cps.toList with
  | [c] => some c
  | _ => none
theorem oneS_eq {z : Str} {c : Nat} (h : oneS z = some c) : z = ⟨#[c]⟩ := by
  unfold oneS at h
  split at h
  · rename_i e
    cases h
    apply Str.ext'
    exact Array.toList_inj.mp e
  · cases h
def gNotInS : PyData → PyData → Option PyData
  | .str x, .str z => (oneS x).map fun c => .bool (!decide (c ∈ z.cps.toList))
  | _, _ => none
def gChr : PyData → Option (List PyData)
  | .str z => some (z.cps.toList.map fun c => .str ⟨#[c]⟩)
  | _ => none
def iChr (f : Ef) : Lf := fun e => (f e).bind fun p => (gChr p.1).bind fun ds => some (ds, p.2)
@[simp] theorem riChr {f : Ef} {e : En} : iChr f e = (f e).bind fun p => (gChr p.1).bind fun ds => some (ds, p.2) := rfl
theorem dqA_strs {K : PySem.W.Frag} {G : Hp} : ∀ {zs : List Str}, (∀ z ∈ zs, z.length ≤ sizeLine) → DqA K G (zs.map V.str) (zs.map .str)
  | [], _ => DqA.nil
  | z :: zs, h => DqA.cons (.str _ (h z (List.mem_cons_self ..))) (dqA_strs fun y hy => h y (List.mem_cons_of_mem _ hy))
theorem vs_strs {K : PySem.W.Frag} {G : Hp} : ∀ {zs : List Str} {vs : List V}, DqA K G vs (zs.map .str) → vs = zs.map V.str
  | [], [], _ => rfl
  | [], _ :: _, h => by have := h.1; simp at this
  | _ :: _, [], h => by have := h.1; simp at this
  | z :: zs, v :: vs, h => by
    obtain ⟨rfl, _⟩ := dq_str h.head
    rw [vs_strs h.tail]; rfl
theorem walkD_str {K : PySem.W.Frag} {G : Hp} {z : Str} : WalkS K G (Its z) (z.cps.toList.map fun c => .str ⟨#[c]⟩) := by
  refine ⟨fun i H hi s => ?_, fun H s => ?_, fun {i H x H' m G' σ e A} hi s st y => ?_⟩
  · rw [List.length_map, Array.length_toList] at hi
    exact hi
  · show z.cps.size ≤ _
    rw [List.length_map, Array.length_toList]; exact Nat.le_refl _
  · obtain ⟨rfl, c, hc, rfl⟩ := y
    refine ⟨G', Step.refl, st, Same.refl _, fun d hd => ?_⟩
    rw [List.getElem?_map, Array.getElem?_toList, hc] at hd
    cases hd
    exact .str _ (by show 1 ≤ sizeLine; decide)
section
variable {ι : Type} {Xf : ι → Cx} {P : Program} {w : World} {K : PySem.W.Frag} {mg : Str → Option Value} {base : Heap} {n : Nat} [F : Fam Xf P w K mg base n]
variable {m m1 m2 : List Ty} {pos p apos : Pos} {a b tg : Expr} {rest : List Expr} {f g : Ef}
include F in
theorem pd_split (ha : PD Xf K m a .s f m1) (hb : PD Xf K m1 b .s g m2) (hs : ∀ i, starEach [b] (Xf i).env = [(false, eval b (Xf i).env)] := by intro _; rfl)
    (hbase : ∀ i, attributeBase a "split" (Xf i).env (eval a (Xf i).env) = eval a (Xf i).env := by intro _; rfl) (hline : (apos.endLine == pos.line) = true := by rfl) :
    PD Xf K m (.Call (.Attribute a "split" apos) [b] [] pos) (.l .s) (e2 gSplit f g) m2 := by
  obtain ⟨ta, pa, da⟩ := ha.ex
  obtain ⟨tb, pb, db⟩ := hb.ex
  refine ⟨_, fun i => pe_split (pa i) (pb i) (hs i) (hbase i) hline, fun {G H σ e A d e' Q} st hf k => ?_⟩
  unfold e2 at hf
  obtain ⟨⟨d1, e1⟩, hf1, hf⟩ := oBs hf
  obtain ⟨⟨d2, e2⟩, hf2, hf⟩ := oBs hf
  obtain ⟨d3, hf3, hf⟩ := oBs hf
  cases hf
  refine da st hf1 fun G1 H1 v1 A1 B1 s1 st1 o1 nd1 => ?_
  cases o1 with
  | s q1 =>
    cases d1 with
    | str x =>
      obtain ⟨rfl, z1⟩ := dq_str q1
      refine ⟨⟨x, rfl⟩, db st1 hf2 fun G2 H2 v2 A2 B2 s2 st2 o2 nd2 => ?_⟩
      cases o2 with
      | s q2 =>
        cases d2 with
        | str y =>
          obtain ⟨rfl, z2⟩ := dq_str q2
          unfold gSplit at hf3
          obtain ⟨⟨c1, c2, c3⟩, rfl⟩ := ite_some hf3
          refine ⟨x, y, rfl, rfl, c1, c2, ?_⟩
          have qq : DqA K G2 ((Txt.split x y).map V.str) ((Txt.split x y).map .str) := dqA_strs fun z hz => of_decide_eq_true (List.all_eq_true.mp c3 z hz)
          refine ans_lst st2 qq (by rw [List.length_map]; exact Nat.le_trans (PyProof.Rows.split_le x y) c2) fun G3 H3 v3 A3 B3 s3 st3 o3 nd3 => ?_
          exact k G3 H3 v3 A3 B3 ((s1.seq0 s2).seq0 s3) st3 o3 nd3
        | _ => cases hf3
    | _ => cases d2 <;> cases hf3
include F in
theorem pd_join (ha : PD Xf K m a .s f m1) (hb : PD Xf K m1 b .s g m2) (hs : ∀ i, starEach [b] (Xf i).env = [(false, eval b (Xf i).env)] := by intro _; rfl)
    (hbase : ∀ i, attributeBase a "join" (Xf i).env (eval a (Xf i).env) = eval a (Xf i).env := by intro _; rfl) (hline : (apos.endLine == pos.line) = true := by rfl) :
    PD Xf K m (.Call (.Attribute a "join" apos) [b] [] pos) .s (e2 gJoin f g) m2 := by
  obtain ⟨ta, pa, da⟩ := ha.ex
  obtain ⟨tb, pb, db⟩ := hb.ex
  refine ⟨_, fun i => by have := pe_join (pa i) (pb i) (hs i) (hbase i) hline; rw [F.kk i] at this; exact this, fun {G H σ e A d e' Q} st hf k => ?_⟩
  unfold e2 at hf
  obtain ⟨⟨d1, e1⟩, hf1, hf⟩ := oBs hf
  obtain ⟨⟨d2, e2⟩, hf2, hf⟩ := oBs hf
  obtain ⟨d3, hf3, hf⟩ := oBs hf
  cases hf
  refine da st hf1 fun G1 H1 v1 A1 B1 s1 st1 o1 nd1 => ?_
  cases o1 with
  | s q1 =>
    cases d1 with
    | str x =>
      obtain ⟨rfl, z1⟩ := dq_str q1
      refine ⟨⟨x, rfl⟩, db st1 hf2 fun G2 H2 v2 A2 B2 s2 st2 o2 nd2 => ?_⟩
      cases o2 with
      | s q2 =>
        have fin : ∀ zs : List Str, ((zs.map (·.length)).sum + zs.length * x.length ≤ 16777216 ∧ (Txt.join x zs).length ≤ sizeLine) → d = .str (Txt.join x zs) → Q (.str (Txt.join x zs)) H2 := fun zs hz e => by
          subst e
          exact ans_s st2 (.str _ hz.2) fun G3 H3 v3 A3 B3 s3 st3 o3 nd3 => k G3 H3 v3 A3 B3 ((s1.seq0 s2).seq0 s3) st3 o3 nd3
        cases d2 with
        | list ds =>
          unfold gJoin joinD at hf3
          obtain ⟨zs, h1, hf3⟩ := oBs hf3
          obtain ⟨c1, e3⟩ := ite_some hf3
          obtain ⟨a, vs, rfl, r1, z1, qq⟩ := dq_lst q2
          rw [strsOf_eq h1] at qq
          rw [vs_strs qq] at r1
          exact ⟨x, a, zs, rfl, rfl, .inl (.inl (same_rd st2.sub r1)), c1.1, fin zs c1 e3.symm⟩
        | tuple ds =>
          unfold gJoin joinD at hf3
          obtain ⟨zs, h1, hf3⟩ := oBs hf3
          obtain ⟨c1, e3⟩ := ite_some hf3
          obtain ⟨a, vs, rfl, r1, z1, qq⟩ := dq_tup q2
          rw [strsOf_eq h1] at qq
          rw [vs_strs qq] at r1
          exact ⟨x, a, zs, rfl, rfl, .inr (same_seqT st2.sub r1), c1.1, fin zs c1 e3.symm⟩
        | _ => cases hf3
    | _ => cases d2 <;> cases hf3
include F in
theorem pi_chr (ha : PD Xf K m a .s f m1) : PIt Xf K false m tg a (iChr f) m1 := by
  obtain ⟨ta, pa, da⟩ := ha.ex
  refine ⟨_, fun i => pi_str (tg := tg) (pa i), fun {G H σ e A ds e' R} st hf k => ?_⟩
  unfold iChr at hf
  obtain ⟨⟨d1, e1⟩, hf1, hf⟩ := oBs hf
  obtain ⟨ds1, hf2, hf⟩ := oBs hf
  cases hf
  cases d1 with
  | str z =>
    cases hf2
    refine da st hf1 fun G1 H1 v1 A1 B1 s1 st1 o1 nd1 => ?_
    cases o1 with
    | s q1 =>
      obtain ⟨rfl, z1⟩ := dq_str q1
      exact ⟨z, rfl, k _ _ _ _ s1 st1 walkD_str.d (by rw [List.length_map, Array.length_toList]; exact z1)⟩
  | _ => cases hf2
include F in
theorem opNotInS : Op2 Xf K (compareOp .NotIn) .s gNotInS := by
  refine ⟨_, fun i => op_notIn_sign, fun {m G H σ e A x y dx dy d Q} st hx hy ee k => ?_⟩
  unfold gNotInS at ee
  split at ee
  · obtain ⟨rfl, z1⟩ := dq_str hx
    obtain ⟨rfl, z2⟩ := dq_str hy
    obtain ⟨c, hc, rfl⟩ := Option.map_eq_some_iff.mp ee
    exact ⟨c, _, by rw [oneS_eq hc], rfl, ans_s st (.bl _) k⟩
  · cases ee
include F in
theorem clIntS : Cl1 Xf K (.type "int") .s gIntS := by
  refine ⟨_, fun i => call_int_str, fun {m G H σ e A x dx d Q} st hx ee k => ?_⟩
  cases dx with
  | str z =>
    obtain ⟨rfl, z1⟩ := dq_str hx
    have ee : (if z.length ≤ 640 then (PySem.intText? z).map PyData.int else none) = some d := ee
    by_cases hz : z.length ≤ 640
    · rw [if_pos hz] at ee
      obtain ⟨i, hi, rfl⟩ := Option.map_eq_some_iff.mp ee
      exact ⟨z, i, rfl, hi, hz, ans_s st (.int _) k⟩
    · rw [if_neg hz] at ee; cases ee
  | _ => cases ee
end
end DL
namespace DLQ
open PySem PyProof PySem.SeqAt PySem.MeetsSeq PySem.MeetsSeq2 PySem.MeetsSeq3
section
variable {A : Around} {s : Shared}
end
end DLQ
namespace DL
open PySem L2 PySem.Spec PyProof.Rows
def isS (d : PyData) (b : Str) : Bool := match d with
  | .str a => a == b
  | _ => false
section
variable {ι : Type} {Xf : ι → Cx} {P : Program} {w : World} {K : PySem.W.Frag} {mg : Str → Option Value} {base : Heap} {n : Nat} [F : Fam Xf P w K mg base n]
include F
end
end DL
namespace DL
open PySem L2 PySem.Spec
def gBlO : PyData → Option PyData
  | .bool b => some (.bool b)
  | _ => none
def eEqO (Fn : DFn) (f g : Ef) : Ef := fun e => (f e).bind fun p => (g p.2).bind fun q => (Fn [p.1, q.1]).bind fun r => (gBlO r.1).bind fun d => some (d, q.2)
@[simp] theorem rEqO' {Fn : DFn} {f g : Ef} {e : En} : eEqO Fn f g e = (f e).bind fun p => (g p.2).bind fun q => (Fn [p.1, q.1]).bind fun r => (gBlO r.1).bind fun d => some (d, q.2) := rfl
section
variable {ι : Type} {Xf : ι → Cx} {P : Program} {w : World} {K : PySem.W.Frag} {mg : Str → Option Value} {base : Heap} {n : Nat} [F : Fam Xf P w K mg base n] [FG : FamG Xf]
variable {C : Addr} {ns : List Str} {tys : List Ty} {rty : Ty} {Fn : DFn} {k : Nat}
end
section
variable {K : PySem.W.Frag} {m m1 m2 : List Ty} {C : Addr} {ns : List Str} {f g : Ef} {Fn : DFn}
end
section
variable {ι : Type} {Xf : ι → Cx} {P : Program} {w : World} {K : PySem.W.Frag} {mg : Str → Option Value} {base : Heap} {n : Nat} [F : Fam Xf P w K mg base n]
variable {m m1 m2 : List Ty} {pos p p2 xp : Pos} {a b : Expr} {f g : Ef} {C D : Addr} {ns : List Str} {ts : List Ty}
structure IsO (K : PySem.W.Frag) (mg : Str → Option Value) (C D : Addr) (y : Str) (t : Bool) : Prop where
  ca : PySem.W.findIn K (.ref C) "__class__" = some (some (.builtin "object.__class__"))
  cn : PySem.W.specialIn K (.builtin "object.__class__") "__get__" = some (some (.builtin "getset_descriptor.__get__"))
  ct : PySem.W.takesIn K (.builtin "object.__class__") = some true
  cm : PySem.W.mroIn K C (.type "object") = some true
  gy : mg y = some (.ref D)
  k1 : PySem.W.kitOne K (.ref C) (.ref D) = some t
end
end DL
namespace DL
open PySem L2 PySem.Spec
section
variable {K : PySem.W.Frag} {mg : Str → Option Value} {m m1 : List Ty} {W : WX} {fx : EfX} {ty : Ty}
end
section
variable {tw tG tb : CT} {call : Ef} {fx : EfX} {gg : PyData → Option PyData}
end
section
variable {ι : Type} {Xf : ι → Cx} {W : WX} {P : Program} {w : World} {K : PySem.W.Frag} {mg : Str → Option Value} {base : Heap} {n : Nat} [F : Fam Xf P w K mg base n]
variable {M : Mk} {m m1 mn mx : List Ty} {pos p p2 p3 cp zp bp : Pos} {a v : Expr} {tb tw tG : CT} {fx : EfX} {call : Ef} {gg : PyData → Option PyData} {ty : Ty} {jz : Nat}
end
end DL
namespace DL
open PySem L2 PySem.Spec
section
variable {ι : Type} {Xf : ι → Cx} {P : Program} {w : World} {K : PySem.W.Frag} {mg : Str → Option Value} {base : Heap} {n : Nat} [F : Fam Xf P w K mg base n] [FG : FamG Xf]
variable {m m1 : List Ty} {pos apos xp kpos : Pos} {C : Addr} {ns : List Str} {ts : List Ty} {ty0 : Ty} {a : Expr} {f : Ef}
end
end DL
namespace DL
open PySem L2 PySem.Spec
section
variable {K : PySem.W.Frag} {m mf : List Ty}
end
section
variable {ι : Type} {Xf : ι → Cx} {P : Program} {w : World} {K : PySem.W.Frag} {mg : Str → Option Value} {base : Heap} {n : Nat} [F : Fam Xf P w K mg base n]
variable {m m1 m2 : List Ty} {pos : Pos} {a b : Expr} {f g : Ef} {C : Addr} {ns : List Str}
end
end DL
namespace DL
open PySem L2 PySem.Spec
def dcL (vs : List Nat) (gf : Gf) (tf : Bf) (kf vf : Ef) : List PyData → List (Int × PyData) → En → Option (List (Int × PyData) × En)
  | [], acc, e => some (acc, e)
  | d :: ds, acc, e => (gf d e).bind fun e1 => (tf e1).bind fun p => if p.1 = true then (kf p.2).bind fun q => (vf q.2).bind fun r => match q.1 with
    | .int i => dcL vs gf tf kf vf ds (putI acc i r.1) (restE e r.2 vs)
    | _ => none
    else dcL vs gf tf kf vf ds acc (restE e p.2 vs)
def eDc (it : Lf) (vs : List Nat) (gf : Gf) (tf : Bf) (kf vf : Ef) : Ef := fun e => (it e).bind fun p => (dcL vs gf tf kf vf p.1 [] p.2).bind fun q => some (.dict (q.1.map kvD), restE p.2 q.2 vs)
structure DcI (K : PySem.W.Frag) (mh : List Ty) (A1 : List Addr) (G1 H1 : Hp) (D : Addr) (ws : St) (Gc Hc : Hp) (e : En) (A : List Addr) (kvs : List (Int × V)) (acc : List (Int × PyData)) : Prop where
  step : Step A1 G1 H1 (D :: A) Gc Hc
  st : Stt K mh Gc Hc ws e A
  atD : Hc D = some (.dK (kvs.map kvV))
  gD : Gc D = none
  keys : kvs.map (·.1) = acc.map (·.1)
  q : DqA K Gc (kvs.map (·.2)) (acc.map (·.2))
  nd : (D :: A).Nodup
section
variable {K : PySem.W.Frag} {mh m2 : List Ty} {A1 : List Addr} {G1 H1 : Hp} {D : Addr} {ws : St}
theorem DcI.move {Gc Hc : Hp} {e : En} {A : List Addr} {kvs : List (Int × V)} {acc : List (Int × PyData)} (I : DcI K mh A1 G1 H1 D ws Gc Hc e A kvs acc) {B : List Addr} {G2 H2 : Hp} (s : Step A Gc Hc B G2 H2) (ndB : B.Nodup) :
    Step A1 G1 H1 (D :: B) G2 H2 ∧ (D :: B).Nodup ∧ H2 D = some (.dK (kvs.map kvV)) ∧ G2 D = none ∧ DqA K G2 (kvs.map (·.2)) (acc.map (·.2)) := by
  have o1 : ∀ a ∈ [D], Gc a = none ∧ ∃ o, Hc a = some o := fun a ha => by
    rw [List.mem_singleton.mp ha]
    exact ⟨I.gD, _, I.atD⟩
  obtain ⟨s3, nd3, hg, hh⟩ := Step.seq (Av := [D]) I.step o1 I.nd s ndB
  exact ⟨s3, nd3, by rw [hh D (List.mem_cons_self ..)]; exact I.atD, hg D (List.mem_cons_self ..), I.q.mono s.sg⟩
end
section
variable {ι : Type} {Xf : ι → Cx} {P : Program} {w : World} {K : PySem.W.Frag} {mg : Str → Option Value} {base : Heap} {n : Nat} [F : Fam Xf P w K mg base n]
variable {m m1 m2 m3 : List Ty} {pos p p2 tpos : Pos} {kx vx iter tg : Expr} {ifs : List Expr} {scope : Scope} {own : List (Str × Nat)} {sl : List Nat} {gf : Gf} {it : Lf} {tf : Bf} {kf vf : Ef}
theorem DE.dc {wk : Bool} {wi : L2.TI} {g : TG} {tt : TT} {tk tv : TE} {vs : List Nat} (hi : DI K wk m wi it m1) (hg : DG K wk (hideM m1 vs) g sl gf m2) (ht : DT K m2 tt tf m2) (hk : DE K m2 tk .s kf m2) (he : DE K m2 tv .s vf m2) (us : usB m1 vs = true) (hs : ∀ j ∈ sl, j ∈ vs) (le : LeM m2 (hideM m1 vs)) :
    DE K m (tDc wi g tt tk tv vs) .d (eDc it vs gf tf kf vf) m1 := by
  intro G H σ e A d e' Q st hf k
  unfold eDc at hf
  obtain ⟨⟨ds, e1⟩, hf1, hf⟩ := oBs hf
  obtain ⟨⟨rs, ef1⟩, hf2, hf⟩ := oBs hf
  cases hf
  refine hi st hf1 fun G1 H1 A1 J s1 st1 wk hz => ?_
  intro D hD
  have own1 := wipeA st1.own us
  have st1' : Stt K (hideM m1 vs) G1 H1 (wipe σ vs) e1 A1 := ⟨own1, st1.nd, st1.sub⟩
  obtain ⟨s2, st2, nd2, gD⟩ := new_o (o := .dK []) (B := []) st1' hD
  let T := fun (i : Nat) (Hc : Hp) => ∃ Gc ec A' kvs acc, DcI K (hideM m1 vs) A1 G1 H1 D (wipe σ vs) Gc Hc ec A' kvs acc ∧ kvs.length ≤ i ∧ dcL vs gf tf kf vf (ds.drop i) acc ec = some (rs, ef1)
  refine ⟨fun i mm Hc => mm = ds.length - i ∧ i ≤ ds.length ∧ T i Hc, ⟨ds.length, by omega, Nat.zero_le _, G1, e1, A1, [], [], ⟨s2, st2, upd_same, gD, rfl, DqA.nil, nd2⟩, Nat.le_refl _, hf2⟩, ?_⟩
  rintro i mm Hc ⟨rfl, hle, Gc, ec, A', kvs, acc, I, hda, hl⟩
  have sub1 : Same G1 Hc := I.step.sg.trans I.st.sub
  by_cases hi : i < ds.length
  · refine .inr ⟨wk.goes i Hc hi sub1, fun Hn => i < ds.length ∧ T (i + 1) Hn, fun Hn hn => ⟨ds.length - (i + 1), by omega, rfl, by omega, hn.2⟩, fun x Hy hy => ?_⟩
    obtain ⟨Gy, sy, sty, sgy, qy⟩ := wk.yields hi I.step.sg I.st hy
    have hd : ds.drop i = ds[i] :: ds.drop (i + 1) := List.drop_eq_getElem_cons hi
    rw [hd] at hl
    unfold dcL at hl
    obtain ⟨e2, hl1, hl⟩ := oBs hl
    obtain ⟨⟨b, e3⟩, hl2, hl⟩ := oBs hl
    refine hg sty (qy _ (List.getElem?_eq_getElem hi)) hl1 fun G3 H3 σ3 A3 s3 st3 k3 l3 => ⟨wipe_eq hs k3 l3, ?_⟩
    have wσ := wipe_eq hs k3 l3
    refine ht st3 hl2 fun G4 H4 A4 s4 st4 => ?_
    have s34 := (sy.seq0 s3).seq0 s4
    have next : ∀ (G5 H5 : Hp) (A5 : List Addr) (e5 : En), Stt K m2 G5 H5 σ3 e5 A5 → ∃ G6 A6, Step A5 G5 H5 A6 G6 H5 ∧ Stt K (hideM m1 vs) G6 H5 (wipe σ vs) (restE ec e5 vs) A6 := fun G5 H5 A5 e5 st5 => by
      obtain ⟨G6, A6, s6, st6⟩ := stt_le le st5
      refine ⟨G6, A6, s6, ⟨?_, st6.nd, st6.sub⟩⟩
      have hidem : ∀ (us : List Nat) (e' : En) (σ' : St) {A : List Addr} {H : Hp} {G : Hp} {mm : List Ty}, OwnA K G H mm e' σ' A → (∀ v ∈ us, mm[v]? = some .u) → OwnA K G H mm (restE ec e' us) (wipe σ' us) A := by
        intro us
        induction us with
        | nil => intro e' σ' A H G mm h _; exact h
        | cons v us ih =>
          intro e' σ' A H G mm h hu
          unfold restE wipe
          have hv := hu v (List.mem_cons_self ..)
          have a := ownA_set0 (t := .u) (d := ec.getD v .none) (v := none) h (.inl hv) (.u _ _)
          rw [set_id hv] at a
          have b := ih _ _ a fun x hx => hu x (List.mem_cons_of_mem _ hx)
          have c : wipe (σ'.set v none) us = (wipe σ' us).set v none := by
            clear ih a b hv hu h
            induction us with
            | nil => rfl
            | cons u us ihu =>
              unfold wipe
              rw [ihu]
              by_cases q : u = v
              · subst q; rfl
              · rw [List.set_comm _ _ (fun z => q z.symm)]
          rw [c] at b; exact b
      have hu : ∀ v ∈ vs, (hideM m1 vs)[v]? = some .u := by
        have aux : ∀ us : List Nat, usB m1 us = true → ∀ v ∈ us, (hideM m1 us)[v]? = some .u := by
          intro us
          induction us with
          | nil => intro _ v h; cases h
          | cons u us ih =>
            intro hus v hv
            obtain ⟨h1, h2, h3⟩ := us_cons hus
            unfold hideM
            by_cases q : u = v
            · subst q
              have : u < (hideM m1 us).length := by
                rw [← hideM_get (m := m1) h2] at h1
                rcases h1 with z | z <;> exact (List.getElem?_eq_some_iff.mp z).1
              simp [this]
            · rw [List.getElem?_set_ne q]
              rcases List.mem_cons.mp hv with z | z
              · exact absurd z.symm q
              · exact ih h3 v z
        exact aux vs us
      have := hidem vs e5 σ3 st6.own hu
      rw [wσ] at this
      exact this
    cases b with
    | true =>
      rw [if_pos rfl] at hl ⊢
      obtain ⟨⟨dk, e4⟩, hl3, hl⟩ := oBs hl
      obtain ⟨⟨dy, e5⟩, hl4, hl⟩ := oBs hl
      refine hk st4 hl3 fun G4' H4' yk Ak A4' s4' st4' o4' nd4' => ?_
      cases o4' with
      | s qk =>
      refine he st4' hl4 fun G5 H5 y Ay A5 s5 st5 o5 nd5 => ?_
      cases o5 with
      | s qv =>
      cases dk with
      | int ki =>
        obtain ⟨G6, A6, s6, st6⟩ := next G5 H5 A5 e5 st5
        obtain ⟨s7, nd7, atD, gD7, q7⟩ := I.move (((s34.seq0 s4').seq0 s5).seq0 s6) st6.nd
        have qv6 : Dq K G6 y dy := qv.mono s6.sg
        have hyk : yk = kV (Sum.inl ki) := dq_int qk
        have hz' : kvs.length < sizeLine := by omega
        have nD : ∀ a ∈ A6, a ≠ D := fun a ha z => (List.nodup_cons.mp nd7).1 (z ▸ ha)
        have frD : ∀ a, a ≠ D → upd H5 D (.dK ((putI kvs ki y).map kvV)) a = H5 a := fun a ha => upd_ne ha
        refine ⟨kvs.map kvV, Sum.inl ki, hyk, atD, by rw [List.length_map]; exact hz', hi, G6, restE ec e5 vs, A6, putI kvs ki y, putI acc ki dy, ?_, ?_, hl⟩
        · rw [putK_map]
          refine ⟨⟨s7.sg, fun a o h ha => ?_, fun a ha => s7.own a ha, s7.gnew⟩, ⟨ownA_fr st6.own (Same.refl _) (fun a ha => (ownA_at st6.own a ha).1) fun a ha => frD a (nD a ha), st6.nd, fun b x hx => ?_⟩, upd_same, gD7, putI_keys I.keys ki y dy, put_rel ki qv6 I.keys q7, nd7⟩
          · rw [frD a (ne_of_none h hD)]; exact s7.fr a o h ha
          · rw [frD b (ne_of_none hx gD7)]; exact st6.sub b x hx
        · have := putI_len kvs ki y
          omega
      | _ => cases hl
    | false =>
      rw [if_neg (by simp)] at hl ⊢
      obtain ⟨G6, A6, s6, st6⟩ := next G4 H4 A4 e3 st4
      obtain ⟨s7, nd7, atD, gD7, q7⟩ := I.move (s34.seq0 s6) st6.nd
      exact ⟨hi, G6, restE ec e3 vs, A6, kvs, acc, ⟨s7, st6, atD, gD7, I.keys, q7, nd7⟩, by omega, hl⟩
  · have hie : i = ds.length := by omega
    subst hie
    refine .inl ⟨wk.stops Hc sub1, ?_⟩
    rw [List.drop_length] at hl
    cases hl
    have un := unwipeA (e' := ef1) st1.own I.step.sg us I.st.own
    refine k Gc Hc (.ref D) [D] A' (s1.seq0 ⟨I.step.sg, I.step.fr, I.step.own, I.step.gnew⟩) ⟨un, I.st.nd, I.st.sub⟩ (.d I.gD I.atD I.keys I.q ?_) I.nd
    omega
end
end DL
namespace DL
open PySem L2 PySem.Spec
def gItems : PyData → Option (List PyData)
  | .dict kvs => some (kvs.map fun p => .tuple [p.1, p.2])
  | _ => none
def iItF (j k : Nat) : Lf := fun e => (gSub1 (qVar j) (qC (.int (k : Nat))) e).bind fun d => (gItems d).bind fun ds => some (ds, e)
@[simp] theorem riItF {j k : Nat} {e : En} : iItF j k e = (gSub1 (qVar j) (qC (.int (k : Nat))) e).bind fun d => (gItems d).bind fun ds => some (ds, e) := rfl
section
variable {K : PySem.W.Frag} {G H H' : Hp} {a : Addr} {o : Obj} {kvs : List (Int × V)} {C : Addr} {ns : List Str} {ts : List Ty}
end
section
variable {K : PySem.W.Frag} {m mn : List Ty} {M : Mk} {j k : Nat} {C : Addr} {ns : List Str} {tys : List Ty}
end
section
variable {ι : Type} {Xf : ι → Cx} {P : Program} {w : World} {K : PySem.W.Frag} {mg : Str → Option Value} {base : Heap} {n : Nat} [F : Fam Xf P w K mg base n]
variable {m m1 mn : List Ty} {M : Mk} {C : Addr} {ns : List Str} {tys : List Ty}
end
section
variable {K : PySem.W.Frag} {G H : Hp} {m : List Ty} {a : Addr} {o : Obj} {kvs : List (Int × V)} {C : Addr} {ns : List Str} {tys : List Ty} {fl : Str} {j k : Nat}
end
section
variable {ι : Type} {Xf : ι → Cx} {P : Program} {w : World} {K : PySem.W.Frag} {mg : Str → Option Value} {base : Heap} {n : Nat} [F : Fam Xf P w K mg base n]
variable {m : List Ty} {ad : Addr} {ob : Obj} {kvs : List (Int × V)} {C : Addr} {ns : List Str} {tys : List Ty} {fl : Str} {pos xp fpos apos cpos tpos : Pos} {elts : List Expr} {kk : Nat}
end
end DL
namespace DL
open PySem L2 PySem.Spec
structure CalMV (P : Program) (w : World) (K : PySem.W.Frag) (mg : Str → Option Value) (base : Heap) (k : Nat) (C : Addr) (x : Str) (ns : List Str) (ts tys : List Ty) (rty : Ty) (Fn : DFn) : Prop where
  ex : ∃ (f : Addr) (fd : FuncData) (ps : List Str), (∀ v : V, FnG P w K mg base k f fd ps (spD K (.o C ns (.k v .s :: ts) :: tys) rty Fn)) ∧ Meth K C x f ∧ Binds K fd ps []
section
variable {P : Program} {w : World} {K : PySem.W.Frag} {mg : Str → Option Value} {base : Heap} {k : Nat} {f : Addr} {fd : FuncData} {ps : List Str} {C : Addr} {x : Str} {ns : List Str} {ts tys : List Ty} {rty : Ty} {Fn : DFn}
theorem CalMV.at (c : CalMV P w K mg base k C x ns ts tys rty Fn) (v : V) : CalM P w K mg base k C x (.o C ns (.k v .s :: ts) :: tys) rty Fn := by
  obtain ⟨f, fd, ps, h, m, b⟩ := c.ex
  exact ⟨f, fd, ps, h v, m, b⟩
theorem spD_k {vs : List V} {H : Hp} {Q : VK} {E : XK} (h : spD K (.o C ns (.s :: ts) :: tys) rty Fn vs H Q E) : ∃ v, spD K (.o C ns (.k v .s :: ts) :: tys) rty Fn vs H Q E := by
  obtain ⟨ds, d, fs, G, A, hF, o, nd, sub, kont⟩ := h
  cases vs with
  | nil => cases o
  | cons v0 vs =>
    have o : OwnA K G H (.o C ns (.s :: ts) :: tys) ds (some v0 :: vs.map some) A := o
    cases o with
    | @cons _ _ d0 ds' _ _ A1 B1 o1 o2 =>
      cases o1 with
      | @o _ dx a _ _ fl es Ai ga gd ha hdx hn oi =>
        cases fl with
        | nil => cases oi
        | cons p fl =>
          have oi : OwnA K G H (.s :: ts) es (some p.2 :: fl.map fun p => some p.2) Ai := oi
          cases oi with
          | @cons _ _ d1 es' _ _ A2 B2 q1 q2 =>
            refine ⟨p.2, _, d, fs, G, _, hF, OwnA.cons (.o ga gd ha hdx hn (fs := p :: fl) (OwnA.cons (.k q1) q2)) o2, nd, sub, fun G' H' v Av A' s oA ov ndv sub' => ?_⟩
            have oA : OwnA K G' H' (.o C ns (.k p.2 .s :: ts) :: tys) fs (some (V.ref a) :: vs.map some) A' := oA
            refine kont G' H' v Av A' s ?_ ov ndv sub'
            cases oA with
            | @cons _ _ d2 fs' _ _ A3 B3 r1 r2 =>
              cases r1 with
              | @o _ dx2 a2 _ _ fl2 es2 Ai2 ga2 gd2 ha2 hdx2 hn2 oi2 =>
                cases fl2 with
                | nil => cases oi2
                | cons p2 fl2 =>
                  have oi2 : OwnA K G' H' (.k p.2 .s :: ts) es2 (some p2.2 :: fl2.map fun p => some p.2) Ai2 := oi2
                  cases oi2 with
                  | @cons _ _ d3 es3 _ _ A4 B4 u1 u2 =>
                    exact OwnA.cons (.o ga2 gd2 ha2 hdx2 hn2 (fs := p2 :: fl2) (OwnA.cons (own_of_k u1).2 u2)) r2
theorem CalMV.s (c : CalMV P w K mg base k C x ns ts tys rty Fn) : CalM P w K mg base k C x (.o C ns (.s :: ts) :: tys) rty Fn := by
  obtain ⟨f, fd, ps, h, m, b⟩ := c.ex
  refine ⟨f, fd, ps, ⟨fun vs H Q E z => ?_, fun A outer s H args us vs Q E r g e0 b v z => ?_⟩, m, b⟩
  · obtain ⟨v, z⟩ := spD_k z
    exact (h v).len vs H Q E z
  · obtain ⟨v', z⟩ := spD_k z
    exact (h v').run A outer s H args us vs Q E r g e0 b v z
end
section
variable {ι : Type} {Xf : ι → Cx} {P : Program} {w : World} {K : PySem.W.Frag} {mg : Str → Option Value} {base : Heap} {n : Nat} [F : Fam Xf P w K mg base n] [FG : FamG Xf]
variable {m m1 m2 : List Ty} {pos apos xp : Pos} {a : Expr} {es : List Expr} {fo : Ef} {fr : Lf} {tys : List Ty} {L : List (Option Nat)} {C : Addr} {ns : List Str} {ts : List Ty}
end
def gRem : PyData → PyData → Option PyData
  | .list ds, .int k => (intsOf ds).bind fun ns => if k ∈ ns then some (.list ((ns.erase k).map .int)) else none
  | _, _ => none
def eRemV (g : Gq) (pt : Pf) (gv : Gq) : Ef := fun e => (g e).bind fun d => (gv e).bind fun x => (gRem d x).bind fun d2 => some (.none, pt e d2)
@[simp] theorem rRemV {g gv : Gq} {pt : Pf} {e : En} : eRemV g pt gv e = (g e).bind fun d => (gv e).bind fun x => (gRem d x).bind fun d2 => some (.none, pt e d2) := rfl
section
variable {K : PySem.W.Frag} {m : List Ty}
end
section
variable {ι : Type} {Xf : ι → Cx} {P : Program} {w : World} {K : PySem.W.Frag} {mg : Str → Option Value} {base : Heap} {n : Nat} [F : Fam Xf P w K mg base n]
variable {m : List Ty} {apos cpos : Pos} {o v : Expr} {g gv : Gq} {pt : Pf}
end
end DL
namespace DL
open PySem L2 PySem.Spec
section
variable {ι : Type} {Xf : ι → Cx} {P : Program} {w : World} {K : PySem.W.Frag} {mg : Str → Option Value} {base : Heap} {n : Nat} [F : Fam Xf P w K mg base n]
variable {m : List Ty} {pos : Pos} {x : Str} {v : V}
end
end DL
namespace DL
open PySem L2 PySem.Spec
def eSrtP (g : Gq) : Ef := fun e => (g e).bind fun d => (gSorted d).bind fun r => some (r, e)
@[simp] theorem rSrtP {g : Gq} {e : En} : eSrtP g e = (g e).bind fun d => (gSorted d).bind fun r => some (r, e) := rfl
section
variable {K : PySem.W.Frag} {m : List Ty} {g : Gq} {pt : Pf}
end
section
variable {ι : Type} {Xf : ι → Cx} {P : Program} {w : World} {K : PySem.W.Frag} {mg : Str → Option Value} {base : Heap} {n : Nat} [F : Fam Xf P w K mg base n] [FG : FamG Xf]
variable {m : List Ty} {pos p : Pos} {a : Expr} {g : Gq} {pt : Pf}
end
end DL
namespace DL
open PySem L2 PySem.Spec PyProof.Rows
section
variable {P : Program} {w : World} {A : Around} {E : Value → Shared → Prop} {s : Shared}
end
section
variable {ι : Type} {Xf : ι → Cx} {P : Program} {w : World} {K : PySem.W.Frag} {mg : Str → Option Value} {base : Heap} {n : Nat} [F : Fam Xf P w K mg base n]
variable {m m1 : List Ty} {pos p pos2 p2 : Pos} {a : Expr} {f : Ef} {x y : Str}
include F
end
end DL
namespace DL
open PySem L2 PySem.Spec PyProof.Rows
section
variable {ι : Type} {Xf : ι → Cx} {P : Program} {w : World} {K : PySem.W.Frag} {mg : Str → Option Value} {base : Heap} {n : Nat} [F : Fam Xf P w K mg base n]
variable {m m1 : List Ty} {pos p pos2 p2 : Pos} {a : Expr} {f : Ef} {x y : Str}
include F
end
end DL
namespace DL
open PySem L2 PySem.Spec
def gOb (cn : Str) (ns : List Str) : PyData → Option PyData
  | .list ds => some (obD none cn ns ds)
  | _ => none
def bTys : List String := ["NoneType", "bool", "int", "str", "list", "tuple", "dict"]
structure IsTb (K : PySem.W.Frag) (mg : Str → Option Value) (D : Addr) (y : Str) (tb : List (Str × Bool)) : Prop where
  gy : mg y = some (.ref D)
  kb : ∀ T ∈ bTys, PySem.W.kitOne K (.type T) (.ref D) = some false
  ko : ∀ cn b, tb.lookup cn = some b → ∀ C, CnK K cn C → PySem.W.kitOne K (.ref C) (.ref D) = some b
section
variable {K : PySem.W.Frag} {m m1 : List Ty} {C : Addr} {cn : Str} {ns : List Str} {f : Ef}
theorem DE.ob {ta : TE} (c : CnK K cn C) (ha : DE K m ta (.f C ns) f m1) : DE K m ta .s (e1 (gOb cn ns) f) m1 := by
  intro G H σ e A d e' Q st hf k
  obtain ⟨⟨d1, e1⟩, hf1, hf⟩ := oBs hf
  obtain ⟨d2, hf2, hf⟩ := oBs hf
  cases hf
  refine ha st hf1 fun G1 H1 v1 A1 B1 s1 st1 o1 nd1 => ?_
  cases o1 with
  | @f _ dx a _ fs ds ga hn q =>
    cases hf2
    subst hn
    exact k G1 H1 (.ref a) [] B1 s1 st1 (.s (.ob none cn c ga (fun b h => by cases h) q.1 q.2)) st1.nd
end
section
variable {ι : Type} {Xf : ι → Cx} {P : Program} {w : World} {K : PySem.W.Frag} {mg : Str → Option Value} {base : Heap} {n : Nat} [F : Fam Xf P w K mg base n]
variable {m m1 : List Ty} {pos p p2 : Pos} {a : Expr} {f : Ef} {C D : Addr} {cn : Str} {ns : List Str} {ts : List Ty}
end
end DL
namespace DL
open PySem L2 PySem.Spec
section
variable {K : PySem.W.Frag} {mg : Str → Option Value} {C D : Addr} {cn y f : Str}
structure NotF (K : PySem.W.Frag) (C : Addr) (cs : List Str) : Prop where
  ne : PySem.W.findIn K (.ref C) "__ne__" = some (some (.builtin "object.__ne__"))
  kb : ∀ T ∈ bTys, PySem.W.notFirst K C (.type T) = true
  ko : ∀ cn ∈ cs, ∀ D, CnK K cn D → PySem.W.notFirst K C (.ref D) = true
end
end DL
namespace DL
open PySem PySem.Spec PyProof.Rows
section
variable {M : Model} {prog : Program} {w : World} {A : Around} {E : Value → Shared → Prop} {s : Shared} {K : PySem.W.Frag} {x C f : Addr} {ox : Obj} {od : Option Obj} {b tb : Value}
end
end DL
namespace DL
open PySem L2 PySem.Spec
def obIn (cs : List Str) : PyData → Bool
  | .dict [(.tuple _, .tuple (.str cn :: _))] => decide (cn ∈ cs)
  | _ => true
def obG (cs : List Str) (d : PyData) : Option Unit := if obIn cs d = true then some () else none
def eEqV (cs : List Str) (Fn : DFn) (f g : Ef) : Ef := fun e => (f e).bind fun p => (g p.2).bind fun q => (obG cs q.1).bind fun _ => (Fn [p.1, q.1]).bind fun r => (gBlO r.1).bind fun d => some (d, q.2)
def gNot1 : PyData → Option PyData
  | .bool b => some (.bool (!b))
  | _ => none
def eNeV (cs : List Str) (Fn : DFn) (f g : Ef) : Ef := e1 gNot1 (eEqV cs Fn f g)
@[simp] theorem rEqV' {cs : List Str} {Fn : DFn} {f g : Ef} {e : En} : eEqV cs Fn f g e = (f e).bind fun p => (g p.2).bind fun q => (obG cs q.1).bind fun _ => (Fn [p.1, q.1]).bind fun r => (gBlO r.1).bind fun d => some (d, q.2) := rfl
@[simp] theorem rNeV' {cs : List Str} {Fn : DFn} {f g : Ef} {e : En} : eNeV cs Fn f g e = ((f e).bind fun p => (g p.2).bind fun q => (obG cs q.1).bind fun _ => (Fn [p.1, q.1]).bind fun r => (gBlO r.1).bind fun d => some (d, q.2)).bind fun r => (gNot1 r.1).bind fun d => some (d, r.2) := rfl
section
variable {ι : Type} {Xf : ι → Cx} {P : Program} {w : World} {K : PySem.W.Frag} {mg : Str → Option Value} {base : Heap} {n : Nat} [F : Fam Xf P w K mg base n] [FG : FamG Xf]
variable {C : Addr} {tys : List Ty} {rty : Ty} {Fn : DFn} {k : Nat}
end
section
variable {K : PySem.W.Frag} {m m1 m2 : List Ty} {C : Addr} {ns : List Str} {f g : Ef} {Fn : DFn} {cs : List Str}
end
section
variable {ι : Type} {Xf : ι → Cx} {P : Program} {w : World} {K : PySem.W.Frag} {mg : Str → Option Value} {base : Heap} {n : Nat} [F : Fam Xf P w K mg base n]
variable {m m1 m2 : List Ty} {pos : Pos} {a b : Expr} {f g : Ef} {C : Addr} {ns : List Str} {cs : List Str}
end
end DL
namespace DL
open PySem L2 PySem.Spec
section
variable {ι : Type} {Xf : ι → Cx} {P : Program} {w : World} {K : PySem.W.Frag} {mg : Str → Option Value} {base : Heap} {n : Nat} [F : Fam Xf P w K mg base n] [FG : FamG Xf]
variable {m m1 : List Ty} {pos apos xp kpos : Pos} {a : Expr} {f : Ef} {C : Addr} {ns : List Str}
end
end DL
namespace DL
open PySem L2 PySem.Spec
def flatQ : Ty → PyData → Bool
  | .l .s, .list ds => ds.all (flatN 3)
  | .s, d => flatN 3 d
  | .d, .dict kvs => kvs.all fun p => sc1 p.2
  | _, _ => false
def borQ (rty : Ty) (Fn : DFn) : DFn := fun ds => (Fn ds).bind fun p => (grd (flatQ rty p.1)).bind fun _ => some (p.1, ds)
@[simp] theorem rBorQ {rty : Ty} {Fn : DFn} {ds : List PyData} : borQ rty Fn ds = (Fn ds).bind fun p => (grd (flatQ rty p.1)).bind fun _ => some (p.1, ds) := rfl
section
variable {P : Program} {w : World} {K : PySem.W.Frag} {mg : Str → Option Value} {base : Heap} {k : Nat} {f : Addr} {fd : FuncData} {ps : List Str} {tys tysF : List Ty} {rty : Ty} {Fn : DFn}
end
end DL
namespace DL
open PySem L2 PySem.Spec PyProof.Rows
def nmB (a : Addr) : PyData → PyData
  | .dict [(.tuple [_, b], t)] => .dict [(.tuple [.int (a : Nat), b], t)]
  | d => d
def nmD (a : Addr) : PyData → PyData
  | .tuple [d] => .tuple [nmB a d]
  | d => nmB a d
theorem dq_namedB {K : PySem.W.Frag} {G : Hp} {v : V} {d : PyData} (q : Dq K G v d) : ∃ a, Dq K G v (nmB a d) := by
  cases q with
  | non => exact ⟨0, .non⟩
  | bl b => exact ⟨0, .bl b⟩
  | int i => exact ⟨0, .int i⟩
  | str x h => exact ⟨0, .str x h⟩
  | lst h1 h2 h3 h4 => exact ⟨0, .lst h1 h2 h3 h4⟩
  | tup h1 h2 h3 h4 => exact ⟨0, .tup h1 h2 h3 h4⟩
  | dv h1 h2 h3 => exact ⟨0, .dv h1 h2 h3⟩
  | @dic a kvs h1 h2 h3 =>
    refine ⟨0, ?_⟩
    match kvs, h1, h2, h3 with
    | [], h1, h2, h3 => exact .dic (kvs := []) h1 h2 h3
    | [x], h1, h2, h3 => exact .dic (kvs := [x]) h1 h2 h3
    | x :: y :: l, h1, h2, h3 => exact .dic (kvs := x :: y :: l) h1 h2 h3
  | @ob a C dx fs ds o cn h1 h2 h3 h4 h5 => exact ⟨a, .ob (some a) cn h1 h2 (fun b e => (Option.some.inj e).symm) h4 h5⟩
theorem dq_named {K : PySem.W.Frag} {G : Hp} {v : V} {d : PyData} (q : Dq K G v d) : ∃ a, Dq K G v (nmD a d) := by
  by_cases h : ∃ d1, d = .tuple [d1]
  · obtain ⟨d1, rfl⟩ := h
    cases q with
    | @tup p xs ds h1 h2 h3 h4 =>
      match xs, h2, h1, h3, h4 with
      | [v1], h2, h1, h3, h4 =>
        obtain ⟨a, qa⟩ := dq_namedB (h4 0 v1 d1 rfl rfl)
        refine ⟨a, .tup h1 rfl h3 fun i v d hv hd => ?_⟩
        match i with
        | 0 => cases hv; cases hd; exact qa
        | i + 1 => simp at hv
  · obtain ⟨a, qa⟩ := dq_namedB q
    have e : nmD a d = nmB a d := by
      unfold nmD
      split
      · exact absurd ⟨_, rfl⟩ h
      · rfl
    exact ⟨a, by rw [e]; exact qa⟩
section
variable {K : PySem.W.Frag} {G H : Hp}
theorem ownA_setS {m : List Ty} {e : En} {σ : L2.St} {A : List Addr} (h : OwnA K G H m e σ A) {j : Nat} (hj : m[j]? = some .s) {v : V} (hv : σ[j]? = some (some v)) {d : PyData} (q : Dq K G v d) : OwnA K G H m (e.set j d) σ A := by
  have z := ownA_set0 h (.inr hj) (t := .s) (d := d) (v := some v) (.s q)
  rw [set_id hj, set_id hv] at z
  exact z
end
noncomputable def nmS {σ : Type} (x : PyData) (g : PyData → Option (PyData × σ)) : Option (Bool × σ) := open Classical in
  if h : ∃ p : Bool × σ, ∀ a : Addr, g (nmD a x) = some (.bool p.1, p.2) then some h.choose else none
noncomputable def eNm (j i : Nat) (f : Ef) : Ef := fun e => open Classical in
  (nmS (e.getD j .none) fun z => (f (e.set j z)).bind fun r => if r.2 = (e.set j z).set i (r.2.getD i .none) then some (r.1, r.2.getD i .none) else none).bind fun p => some (.bool p.1, e.set i p.2)
@[simp] theorem rNm {j i : Nat} {f : Ef} {e : En} : eNm j i f e = open Classical in
  (nmS (e.getD j .none) fun z => (f (e.set j z)).bind fun r => if r.2 = (e.set j z).set i (r.2.getD i .none) then some (r.1, r.2.getD i .none) else none).bind fun p => some (.bool p.1, e.set i p.2) := rfl
theorem DE.nm {K : PySem.W.Frag} {te : TE} {f : Ef} {m m1 : List Ty} {j i : Nat} (he : DE K m te .s f m1) (hj : m[j]? = some .s) (hj1 : m1[j]? = some .s) (ij : i ≠ j) : DE K m te .s (eNm j i f) m1 := by
  intro G H σ e A d e' Q st hf k
  obtain ⟨p, hp, hf2⟩ := oBs hf
  cases hf2
  unfold nmS at hp
  split at hp
  case isFalse => cases hp
  rename_i h0
  have sp := h0.choose_spec
  cases hp
  generalize h0.choose = p at sp k
  obtain ⟨d0, v0, hd, hv, q0⟩ := ownA_getS st.own hj
  have ed : e.getD j .none = d0 := by rw [List.getD_eq_getElem?_getD, hd]; rfl
  rw [ed] at sp
  obtain ⟨a, qa⟩ := dq_named q0
  obtain ⟨r, f1, f2⟩ := oBs (sp a)
  split at f2
  case isFalse => cases f2
  rename_i hr
  obtain ⟨r1, r2⟩ := r
  have hr : r2 = (e.set j (nmD a d0)).set i (r2.getD i .none) := hr
  have f2 : some (r1, r2.getD i .none) = some (PyData.bool p.1, p.2) := f2
  obtain ⟨b1, b2⟩ := Prod.mk.inj (Option.some.inj f2)
  subst b1
  rw [b2] at hr
  have hr : r2 = (e.set j (nmD a d0)).set i p.2 := hr
  refine he ⟨ownA_setS st.own hj hv qa, st.nd, st.sub⟩ f1 fun G' H' v Av A' s' st' o' nd' => ?_
  refine k G' H' v Av A' s' ?_ o' nd'
  have z := ownA_setS st'.own hj1 hv (q0.mono s'.sg)
  have e2 : r2.set j d0 = e.set i p.2 := by
    rw [hr, List.set_comm _ _ ij, List.set_set, set_id hd]
  rw [e2] at z
  exact ⟨z, st'.nd, st'.sub⟩
section
variable {ι : Type} {Xf : ι → Cx} {P : Program} {w : World} {K : PySem.W.Frag} {mg : Str → Option Value} {base : Heap} {n : Nat} [F : Fam Xf P w K mg base n] [FG : FamG Xf]
include F
end
end DL
namespace DL
open PySem L2 PySem.Spec
section
variable {ι : Type} {Xf : ι → Cx} {P : Program} {w : World} {K : PySem.W.Frag} {mg : Str → Option Value} {base : Heap} {n : Nat} [F : Fam Xf P w K mg base n]
variable {m m1 m2 : List Ty} {pos : Pos} {a b : Expr} {f g : Ef}
include F
end
section
variable {ι : Type} {Xf : ι → Cx} {P : Program} {w : World} {K : PySem.W.Frag} {mg : Str → Option Value} {base : Heap} {n : Nat} [F : Fam Xf P w K mg base n] [FG : FamG Xf]
variable {m m1 : List Ty} {pos apos xp : Pos} {a : Expr} {f : Ef} {tys : List Ty} {C : Addr} {ns : List Str} {ts : List Ty}
end
end DL
namespace DL
open PySem L2 PySem.Spec
section
variable {ι : Type} {Xf : ι → Cx} {P : Program} {w : World} {K : PySem.W.Frag} {mg : Str → Option Value} {base : Heap} {n : Nat} [F : Fam Xf P w K mg base n]
variable {m m1 : List Ty} {pos : Pos} {a : Expr} {f : Ef}
include F
end
end DL
namespace DL
open PySem L2 PySem.Spec
section
variable {prog : Program} {w : World} {A : Around} {E : Value → Shared → Prop} {s : Shared} {x1 : Addr}
end
section
variable {prog : Program} {w : World} {A : Around} {E : Value → Shared → Prop} {s : Shared} {x1 : Addr}
end
section
variable {X : Cx}
end
section
variable {X : Cx}
end
structure PItH {ι : Type} (Xf : ι → Cx) (K : PySem.W.Frag) (wk : Bool) (m : List Ty) (tg iter : Expr) (f : Lf) (m' : List Ty) : Prop where
  ex : ∃ wi : L2.TI, (∀ i, L2H.PIH (Xf i) tg iter wi) ∧ DI K wk m wi f m'
section
variable {ι : Type} {Xf : ι → Cx} {P : Program} {w : World} {K : PySem.W.Frag} {mg : Str → Option Value} {base : Heap} {n : Nat} [F : Fam Xf P w K mg base n] {a0 : Addr} {cls : Value} {d0 : Option Addr}
variable {m m1 m2 : List Ty} {pos : Pos} {a tg iter elt : Expr} {ifs : List Expr} {scope : Scope} {f ef : Ef} {tf : Bf} {it : Lf} {gf : Gf} {ty : Ty} {sl : List Nat}
end
end DL
namespace DL
open PySem L2 PySem.Spec PyProof.Rows
section
variable {P : Program} {w : World} {K : PySem.W.Frag} {mg mb : Str → Option Value} {k : Nat} {fa a : Addr} {fd : FuncData} {x : Str} {vs : List Value} {ns : List Int} {Fn : DFn}
end
theorem all_at {l : List Bool} (h : l.all id = true) (i : Nat) {b : Bool} (e : l[i]? = some b := by rfl) : b = true :=
  List.all_eq_true.mp h b (List.mem_of_getElem? e)
theorem and1 {a b : Bool} (h : (a && b) = true) : a = true := (Bool.and_eq_true_iff.mp h).1
theorem and2 {a b : Bool} (h : (a && b) = true) : b = true := (Bool.and_eq_true_iff.mp h).2
section
variable {K : PySem.W.Frag} {fa : List He.Fa} {fn : List He.DefD}
theorem fun_ofD (c : He.SaysD fa fn K) (i : Nat) {p : Str × Option Str} {x qual : Str} {st : Stmt} (h : fn[i]? = some ⟨p, x, qual, defArgs st, defBody st, defScope st, [], []⟩ := by rfl) : ∃ fd, L2.Fun K x qual st (He.fAd K p) fd := by
  obtain ⟨fd, ⟨oc, od, dV, kV, doc, pm, an, cdv, ct, osl, e1, e2, e3, e4, _⟩, kp⟩ := c.def_ i h
  refine ⟨fd, ⟨oc, od, kV, doc, pm, an, cdv, ct, osl, ?_, e2, e3⟩, kp⟩
  rcases e4 with ⟨_, q⟩ | ⟨q, _⟩
  · rw [e1, q]
  · exact absurd rfl q
theorem ns_int {x : Str} {i : Int} (c : (He.Fa.int x i).ok K = true) : ∃ t, PySem.W.nsIn K mainGlobals x = some (some (.int i t)) := by
  have c2 : (match PySem.W.nsIn K mainGlobals x with
    | some (some (.int j _)) => decide (j = i)
    | _ => false) = true := c
  split at c2
  · rename_i j t e
    have := of_decide_eq_true c2
    subst this
    exact ⟨t, e⟩
  · cases c2
theorem ns_str {x z : Str} (c : (He.Fa.str x z).ok K = true) : ∃ t, PySem.W.nsIn K mainGlobals x = some (some (.str z t)) := by
  have c2 : (match PySem.W.nsIn K mainGlobals x with
    | some (some (.str y _)) => decide (y = z)
    | _ => false) = true := c
  split at c2
  · rename_i j t e
    have := of_decide_eq_true c2
    subst this
    exact ⟨t, e⟩
  · cases c2
def oexB (n : String) (K : PySem.W.Frag) (C : Addr) : Bool := match K.lookup C with
  | some ⟨.type ty, _, .cls cd, sl⟩ => decide (ty = "type") && (match cd.mro with
    | c0 :: bm => decide (c0 = .ref C) && (cd.hasDict && (!cd.hasDel && decide (sl.size = 6 ∧ sl[4]? = some (some (.builtin n)))))
    | [] => false)
  | _ => false
def mroB (K : PySem.W.Frag) (C : Addr) : List Value := match K.lookup C with
  | some ⟨_, _, .cls cd, _⟩ => cd.mro.tail
  | _ => []
theorem slots6 {sl : Array (Option Value)} {v : Option Value} (h : sl.size = 6 ∧ sl[4]? = some v) : ∃ k0 k1 k2 k3 k5, sl = #[k0, k1, k2, k3, v, k5] := by
  obtain ⟨l⟩ := sl
  obtain ⟨h1, h2⟩ := h
  match l, h1, h2 with
  | [k0, k1, k2, k3, k4, k5], _, h2 =>
    have : k4 = v := by simpa using h2
    subst this
    exact ⟨_, _, _, _, _, rfl⟩
theorem oexB_ok {n : String} {C : Addr} (h : oexB n K C = true) : ∃ nm q N bs sn sub ab col dd k0 k1 k2 k3 k5, K.lookup C = some (excClassObj nm q C N bs (mroB K C) true sn sub ab col dd k0 k1 k2 k3 k5 n) := by
  unfold oexB at h
  unfold mroB
  split at h
  · rename_i ty dd cd sl e
    have h1 := of_decide_eq_true (and1 h)
    subst h1
    have h := and2 h
    obtain ⟨nm, bs, mro, N, q, hd, sn, sub, ab, col, hdel⟩ := cd
    match mro, h with
    | c0 :: bm, h =>
      have h2 := of_decide_eq_true (and1 h)
      subst h2
      have h3 : hd = true := and1 (and2 h)
      have h4 : (!hdel) = true := and1 (and2 (and2 h))
      obtain ⟨k0, k1, k2, k3, k5, h5⟩ := slots6 (of_decide_eq_true (and2 (and2 (and2 h))))
      subst h3 h5
      have h6 : hdel = false := by simpa using h4
      subst h6
      refine ⟨nm, q, N, bs, sn, sub, ab, col, dd, k0, k1, k2, k3, k5, ?_⟩
      rw [e]
      rfl
  · cases h
theorem oexc_of {C : Addr} (xl : oexB "ValueError.__new__" K C = true) (xy : PySem.HandSPX.refsVE (mroB K C) = true) (sa : PySem.W.findIn K (.ref C) "__setattr__" = some (some (.builtin "object.__setattr__"))) (eC : PySem.W.subIn K (.ref C) (.type "BaseException") = some true)
    (tC : PySem.W.typeIn K (.ref C) = some (.type "type")) (kC : PySem.W.keepIn K (.ref C) = true) : OexC K C := by
  obtain ⟨nm, q, N, bs, sn, sub, ab, col, dd, k0, k1, k2, k3, k5, e⟩ := oexB_ok xl
  exact ⟨⟨nm, q, N, bs, _, sn, sub, ab, col, dd, k0, k1, k2, k3, k5, e, xy⟩, sa, eC, tC, kC⟩
end
end DL
namespace DL
open PySem L2 PySem.Spec PyProof.Rows
def putAt (m : Nat) : List Addr := mainGlobals :: (List.range m).reverse
def fragY (m : Nat) (g : Addr → Option Obj) : PySem.W.Frag := He.frT g (putAt m)
def obsY (m : Nat) (fn : List He.DefD) (ts : List He.Tab) (tf : List He.Defn) (ex : PySem.W.Frag → Bool) (g : Addr → Option Obj) : He.AlX := (He.obsT [] fn ts (fragY m g), ex (fragY m g) && He.tabsB g tf (fragY m g))
theorem sees_ofY {m : Nat} {fn : List He.DefD} {ts : List He.Tab} {tf : List He.Defn} {ex : PySem.W.Frag → Bool} {w : World} {h : Heap} (e : obsY m fn ts tf ex h.get? = He.valX fn ts w) : He.SaysX [] fn ts tf ex w h (fragY m h.get?) := by
  obtain ⟨e1, e2⟩ := Prod.mk.inj e
  obtain ⟨x1, x2⟩ := Bool.and_eq_true_iff.mp e2
  have per : ∀ p ∈ tf, PySem.W.codeHdIn (fragY m h.get?) (He.cT (fragY m h.get?) p).1 (He.cT (fragY m h.get?) p).2 = true ∧ ∃ o, h.get? (He.cT (fragY m h.get?) p).2 = some o ∧ He.emptyTab o = true := by
    intro p hp
    have x3 := List.all_eq_true.mp x2 p hp
    obtain ⟨x4, x5⟩ := Bool.and_eq_true_iff.mp x3
    refine ⟨x4, ?_⟩
    revert x5
    generalize h.get? (He.cT (fragY m h.get?) p).2 = oo
    intro x5
    match oo, x5 with
    | some o, x5 => exact ⟨o, rfl, x5⟩
  refine ⟨e1, x1, fun p hp => (per p hp).1, fun p hp => ?_, fun p hp => ?_⟩
  · obtain ⟨_, o, a1, a2⟩ := per p hp
    exact He.frT_none a1 a2
  · obtain ⟨_, o, a1, a2⟩ := per p hp
    exact a1.trans (congrArg some (He.emptyTab_eq a2))
def hookY (m : Nat) (fn : List He.DefD) (ts : List He.Tab) (tf : List He.Defn) (ex : PySem.W.Frag → Bool) : PySem.W.Hook where
  α := He.AlX
  obs := fun s => obsY m fn ts tf ex s.heap.get?
  val := fun w => He.valX fn ts w
  says := fun w h => ∃ K : PySem.W.Frag, K.In h ∧ He.SaysX [] fn ts tf ex w h K
  of := fun _ _ e => ⟨_, He.frT_in, sees_ofY e⟩
  keeps := (He.hookX 0 [] fn ts tf ex).keeps
theorem obsY_at {m : Nat} {fn : List He.DefD} {ts : List He.Tab} {tf : List He.Defn} {ex : PySem.W.Frag → Bool} (s : PySem.W.SharedT) : obsY m fn ts tf ex (HandSHeadRun.getT s) = (hookY m fn ts tf ex).obs s.abs :=
  congrArg (obsY m fn ts tf ex) (funext (HandSHeadRun.getT_eq s))
section
variable {r : PySem.W.OpenRow} {M m : Nat} {w : World} {α β : Type}
def Sees (r : PySem.W.OpenRow) (M : Nat) (w : World) (f : PySem.W.SharedT → α) (v : α) : Prop :=
  ∀ os : OsState, (HandSHeadRun.endF (HandSHeadRun.stepQ (HandSHeadRun.denQ HandSHeadRun.tabQ) r.prog w) M r.prog w os).map f = some v
theorem Sees.at_ {f : PySem.W.SharedT → α} {v : α} (h : Sees r M w f v) (os : OsState) : ∃ s, HandSHeadRun.endF (HandSHeadRun.stepQ (HandSHeadRun.denQ HandSHeadRun.tabQ) r.prog w) M r.prog w os = some s ∧ f s = v :=
  Option.map_eq_some_iff.mp (h os)
theorem Sees.and {f : PySem.W.SharedT → α} {g : PySem.W.SharedT → β} {a : α} {b : β} (h1 : Sees r M w f a) (h2 : Sees r M w g b) : Sees r M w (fun s => (f s, g s)) (a, b) := fun os => by
  obtain ⟨s, e, e1⟩ := h1.at_ os
  obtain ⟨s', e', e2⟩ := h2.at_ os
  rw [e] at e'
  cases e'
  rw [e, Option.map_some, e1, e2]
theorem Sees.to {f : PySem.W.SharedT → α} {g : PySem.W.SharedT → β} {a : α} {b : β} (h : Sees r M w f a) (k : ∀ s, f s = a → g s = b) : Sees r M w g b := fun os => by
  obtain ⟨s, e, e1⟩ := h.at_ os
  rw [e, Option.map_some, k s e1]
theorem Sees.tt {f g : PySem.W.SharedT → Bool} (h1 : Sees r M w f true) (h2 : Sees r M w g true) : Sees r M w (fun s => f s && g s) true :=
  (h1.and h2).to fun s e => by
    obtain ⟨e1, e2⟩ := Prod.mk.inj e
    rw [e1, e2] <;> rfl
def defY (m : Nat) (fn : List He.DefD) (s : PySem.W.SharedT) : He.AlD := He.obsD [] fn (fragY m (HandSHeadRun.getT s))
def boolY (m : Nat) (ex : PySem.W.Frag → Bool) (s : PySem.W.SharedT) : Bool := ex (fragY m (HandSHeadRun.getT s))
theorem Sees.defs {a b : List He.DefD} (h1 : Sees r M w (defY m a) (He.valD a)) (h2 : Sees r M w (defY m b) (He.valD b)) : Sees r M w (defY m (a ++ b)) (He.valD (a ++ b)) :=
  (h1.and h2).to fun s e => by
    obtain ⟨e1, e2⟩ := Prod.mk.inj e
    obtain ⟨x1, y1⟩ := Prod.mk.inj (show (_, _) = (_, _) from e1)
    obtain ⟨x2, y2⟩ := Prod.mk.inj (show (_, _) = (_, _) from e2)
    refine Prod.ext ?_ ?_
    · show ((a ++ b).all fun d => d.ok (fragY m (HandSHeadRun.getT s))) = true
      rw [List.all_append]
      exact Bool.and_eq_true_iff.mpr ⟨x1, x2⟩
    · show (a ++ b).map _ = (a ++ b).map _
      rw [List.map_append, List.map_append]
      exact congr (congrArg _ y1) y2
theorem Sees.all {fn : List He.DefD} {ex : PySem.W.Frag → Bool} (h1 : Sees r M w (defY m fn) (He.valD fn)) (h2 : Sees r M w (boolY m ex) true) : Sees r M w (fun s => obsY m fn [] [] ex (HandSHeadRun.getT s)) (He.valX fn [] w) :=
  (h1.and h2).to fun s e => by
    obtain ⟨e1, e2⟩ := Prod.mk.inj e
    refine Prod.ext (Prod.ext e1 rfl) ?_
    show (boolY m ex s && true) = true
    rw [e2]; rfl
theorem Sees.run {q : Program} {H : PySem.W.Hook} {ob : PySem.W.SharedT → H.α} {loose : List Str}
    (h1 : Sees r M w (fun s => (HandSHeadRun.looksF r.prog (PySem.W.boot_heap w.params) s.abs, HandSHeadRun.seenQ q loose (PySem.importedModules r.prog.main.body) (fun s => PySem.W.xlAt q [] s && PySem.W.recOk r.toRowW.records s) s.abs)) (true, PySem.W.openGood q loose))
    (h2 : Sees r M w ob (H.val w)) : HandSHeadRun.RunEq r q H ob M loose w :=
  (h1.and h2).to fun s e => by
    obtain ⟨e1, e2⟩ := Prod.mk.inj e
    obtain ⟨e3, e4⟩ := Prod.mk.inj e1
    exact Prod.ext e3 (Prod.ext e4 e2)
end
theorem fact_at {l : List Bool} (h : l.all id = true) (i : Nat) {p : Prop} {d : Decidable p} (e : l[i]? = some (@decide p d) := by rfl) : p := of_decide_eq_true (all_at h i e)
section
variable {K : PySem.W.Frag} {fa : List He.Fa} {fn : List He.DefD}
theorem fun_ofG (c : He.SaysD fa fn K) (i : Nat) {x y qual : Str} {st : Stmt} (h : fn[i]? = some ⟨(x, none), y, qual, defArgs st, defBody st, defScope st, [], []⟩ := by rfl) : ∃ fd, L2.Fun K y qual st (He.ga K x) fd := fun_ofD c i h
theorem fun_ofM (c : He.SaysD fa fn K) (i : Nat) {X m y qual : Str} {st : Stmt} (h : fn[i]? = some ⟨(X, some m), y, qual, defArgs st, defBody st, defScope st, [], []⟩ := by rfl) : ∃ fd, L2.Fun K y qual st (He.ma K (He.ga K X) m) fd := fun_ofD c i h
theorem ints_at {l : List Bool} (h : l.all id = true) (i : Nat) {x : Str} {n : Int} (e : l[i]? = some ((He.Fa.int x n).ok K) := by rfl) : ∃ t, PySem.W.nsIn K mainGlobals x = some (some (.int n t)) := ns_int (all_at h i e)
theorem strs_at {l : List Bool} (h : l.all id = true) (i : Nat) {x z : Str} (e : l[i]? = some ((He.Fa.str x z).ok K) := by rfl) : ∃ t, PySem.W.nsIn K mainGlobals x = some (some (.str z t)) := ns_str (all_at h i e)
end
section
variable {K : PySem.W.Frag} {x qual : Str} {st : Stmt} {f : Addr} {fd : FuncData}
theorem bnd1 {p1 : Str} (F : L2.Fun K x qual st f fd) (h : ∀ (kV doc pm : Value) (an : Option Addr) (cdv ct u1 : Value), bindArgs (PySem.W.fnOf x qual (defArgs st) (defBody st) (defScope st) .none kV doc pm an cdv ct) ⟨[u1], []⟩ = pure (([p1] : List Str).zip [u1]) := by intros; rfl) : Binds K fd [p1] [] :=
  F.binds (ps := [p1]) fun kV doc pm an cdv ct us hl => match us, hl with | [u1], _ => h kV doc pm an cdv ct u1
theorem bnd2 {p1 p2 : Str} (F : L2.Fun K x qual st f fd) (h : ∀ (kV doc pm : Value) (an : Option Addr) (cdv ct u1 u2 : Value), bindArgs (PySem.W.fnOf x qual (defArgs st) (defBody st) (defScope st) .none kV doc pm an cdv ct) ⟨[u1, u2], []⟩ = pure (([p1, p2] : List Str).zip [u1, u2]) := by intros; rfl) : Binds K fd [p1, p2] [] :=
  F.binds (ps := [p1, p2]) fun kV doc pm an cdv ct us hl => match us, hl with | [u1, u2], _ => h kV doc pm an cdv ct u1 u2
theorem bnd3 {p1 p2 p3 : Str} (F : L2.Fun K x qual st f fd) (h : ∀ (kV doc pm : Value) (an : Option Addr) (cdv ct u1 u2 u3 : Value), bindArgs (PySem.W.fnOf x qual (defArgs st) (defBody st) (defScope st) .none kV doc pm an cdv ct) ⟨[u1, u2, u3], []⟩ = pure (([p1, p2, p3] : List Str).zip [u1, u2, u3]) := by intros; rfl) : Binds K fd [p1, p2, p3] [] :=
  F.binds (ps := [p1, p2, p3]) fun kV doc pm an cdv ct us hl => match us, hl with | [u1, u2, u3], _ => h kV doc pm an cdv ct u1 u2 u3
end
end DL
namespace DL
open PySem L2 PySem.Spec PyProof.Rows
abbrev lamQ (X : Cx) : Str := X.env.qual ++ "<lambda>"
def Grew (H : Hp) (P : Addr) (ps : Array Value) (pos : Pos) (q : Str) (c : Addr) (H1 : Hp) : Prop :=
  (H1 = H ∧ codeAmong pos ps.toList = some (.ref c)) ∨ (H c = none ∧ H1 = upd (upd H P (.tbl (ps ++ #[rawInt pos.line, rawInt pos.col, .ref c]))) c (LamX.CodeO c q))
def TabG (G : Hp) (q : Str) (ps : Array Value) : Prop := TriplesOk ps.toList ∧ ∀ (pos : Pos) (cv : Value), codeAmong pos ps.toList = some cv → ∃ c, cv = .ref c ∧ G c = some (LamX.CodeO c q)
section
variable {X : Cx} {pins : List (Addr × Obj)} {σ : L2.St} {H : Hp} {s : Shared}
theorem lam_mk {c P : Addr} {tb : Array Value} {params : Arguments} {body : Expr} {scope : Scope} {pos : Pos} {E Q : Value → Shared → Prop} (I : L2.Inv X pins σ H s) (T : LamX.TabB X.base X.mg c P) (hco : X.env.code = .ref c) (tP : H P = some (.tbl tb)) (tg : TabG H (lamQ X) tb)
    (nd : defaultsOf params X.env = ([], [])) (fr : ∀ y ∈ scope.names, y.2 = .free → ∃ c, X.env.cells.lookup y.1 = some c)
    (k : ∀ (b c1 : Addr) (pm ct : Value) (H1 : Hp) (s1 : Shared), L2.Inv X pins σ H1 s1 → Grew H P tb pos (lamQ X) c1 H1 →
      s1.heap.get? b = some (PySem.W.kla_obj "<lambda>" (lamQ X) params body scope (cloFrom X.env.cells scope.names []) pm c1 ct) → H1 b = none → b ∉ frs X.stack → Q (.ref b) s1) :
    wpAny (model X.prog X.w) X.A (eval (.Lambda params body scope pos) X.env) Q E s := by
  have tAt : s.heap.get? P = some { cls := .none, data := .fields tb } := I.hok P _ tP
  have far : ∀ b : Addr, s.heap.objs.size ≤ b → b ∉ frs X.stack := fun b hb z => (List.mem_cons.mp (I.stkSub _ z)).elim (fun q => Nat.lt_irrefl _ (Nat.lt_of_lt_of_le (q ▸ I.lt) hb)) fun q => I.nofs hb q
  refine PySem.W.kla_eval nd ?_
  rcases hca : codeAmong pos tb.toList with _ | cv
  · refine PySem.W.kla_makeFunction (c := c) (P := P) (ps := tb) (mg := X.mg) (closure_ok fr) I.ok.glob (I.mod.glob.keeps I.bk) hco (T.code.keeps I.bk) tAt tg.1 hca T.gP (T.bm.keeps I.bk) ?_
    intro c1 ct h1 tk ext ge lt rec_ at1
    obtain ⟨c2, oc, vs, t, ec, o1, o2, o3⟩ := rec_
    cases ec
    have up : ∀ {b : Addr} {o : Obj}, h1.get? b = some o → (h1.push (PySem.W.kla_obj "<lambda>" (lamQ X) params body scope (cloFrom X.env.cells scope.names []) ((X.mg "__name__").getD .none) c1 ct)).get? b = some o := fun e => Heap.get?_push_of_some _ e
    have hc1 : H c1 = none := I.hok.fresh ge
    have J := LamX.inv_table (q := lamQ X) (c := c1) (more := #[rawInt pos.line, rawInt pos.col, .ref c1]) (t' := tk) I tP (fun b o n e => up (ext b o n e)) (up at1) ge ⟨oc, vs, t, up o1, o2, o3⟩
    have sz := Nat.le_trans ge (Nat.le_of_lt lt)
    refine k _ c1 _ ct _ _ J (.inr ⟨hc1, rfl⟩) (Heap.get?_push_size _ rfl) ?_ (far _ sz)
    rw [upd_ne (Nat.ne_of_gt lt), upd_ne (Nat.ne_of_gt (Nat.lt_of_lt_of_le (Heap.lt_size tAt) sz))]
    exact I.hok.fresh sz
  · obtain ⟨c1, rfl, known⟩ := tg.2 pos cv hca
    refine PySem.W.kla_makeFunctionHit (c := c) (P := P) (ps := tb) (mg := X.mg) (closure_ok fr) I.ok.glob (I.mod.glob.keeps I.bk) hco (T.code.keeps I.bk) tAt tg.1 hca (T.bm.keeps I.bk) ?_
    intro ct h1 tk ext sz
    exact k _ c1 _ ct H _ (I.kept fun b o e => Heap.get?_push_of_some _ (ext b o e)) (.inl ⟨rfl, hca⟩) (Heap.get?_push_size _ rfl) (I.hok.fresh sz) (far _ sz)
end
structure LI {ι : Type} (Xf : ι → Cx) (scope : Scope) (n : Nat) (W : WX) where
  i : ι
  A : Around
  outer : List Env
  s : Shared
  H : Hp
  E : XK
  f : Addr
  c1 : Addr
  xe : Value → Shared → Prop
  rm : Room n (A.deeper (LamX.lamEnv (Xf i) scope s.heap.objs.size f c1))
  gd : (A.deeper (LamX.lamEnv (Xf i) scope s.heap.objs.size f c1)).guards = some []
  tk : L2N.Takes ((LamX.lamCx (Xf i) A outer s H E scope f c1).tr [] xe) W
  ps : PassesOwn (model (Xf i).prog (Xf i).w) (A.deeper (LamX.lamEnv (Xf i) scope s.heap.objs.size f c1)) (LamX.lamEnv (Xf i) scope s.heap.objs.size f c1) xe
def lamF {ι : Type} (Xf : ι → Cx) (scope : Scope) (n : Nat) (W : WX) : LI Xf scope n W → Cx := fun b => (LamX.lamCx (Xf b.i) b.A b.outer b.s b.H b.E scope b.f b.c1).tr [] b.xe
section
variable {ι : Type} {Xf : ι → Cx} {P : Program} {w : World} {K : PySem.W.Frag} {mg : Str → Option Value} {base : Heap} {n k : Nat} {W : WX} {scope : Scope}
instance [F : Fam Xf P w K mg base n] : Fam (lamF Xf scope k W) P w K mg base k :=
  ⟨fun b => F.prog b.i, fun b => F.w_ b.i, fun b => F.kk b.i, fun b => F.mg_ b.i, fun b => F.base_ b.i, fun b => b.rm.u, fun b => F.nd b.i⟩
instance : FamG (lamF Xf scope k W) := ⟨fun b => b.gd, fun b => rfl, fun b => b.rm.hd⟩
instance : FamN (lamF Xf scope k W) := ⟨fun b => b.ps⟩
instance : FamT (lamF Xf scope k W) W := ⟨fun b => b.tk⟩
end
section
variable {X : Cx} {pins : List (Addr × Obj)} {σ : L2.St} {H : Hp} {s : Shared}
theorem pe_actX {Eg : XK} {Ng : List Str} {qg : Str} {sg : Scope} {g b c1 : Addr} {cdg pm ct : Value} {params : Arguments} {body : Expr} {scope : Scope} {k j : Nat} {a : Str} {pn : List (Addr × Obj)} {xe : Value → Shared → Prop} {W : WX} {tb : WX → TE} {p1 p2 : Pos}
    (I : L2.Inv X pins σ H s) (L : LamX.LamS X.env.scope scope) (ob : s.heap.get? b = some (PySem.W.kla_obj "<lambda>" (lamQ X) params body scope (cloFrom X.env.cells scope.names []) pm c1 ct)) (nb : H b = none) (nf : b ∉ frs X.stack)
    (bind : bindArgs (PySem.W.kla_fn "<lambda>" (lamQ X) params body scope (cloFrom X.env.cells scope.names []) pm (.ref c1) ct) ⟨[], []⟩ = pure [])
    (tk : L2N.Takes ((cxOf CX0 X.prog X.w X.K X.mg X.base Ng qg sg g cdg X.A X.stack s H Eg).nox.tr pn xe) W) (hr : Room (k + 1) (X.A.deeper (envOfC qg sg s.heap.objs.size g cdg))) (hg : (X.A.deeper (envOfC qg sg s.heap.objs.size g cdg)).guards = some [])
    (hbody : ∀ (W : WX) (z : LI (oneX X) scope k W), PE (lamF (oneX X) scope k W z) body (tb W))
    (hN : Ng[j]? = some a) (hv : Vis sg a) (hd : (a == ("__debug__" : Str)) = false := by decide) (hcd : (a == ("__classdict__" : Str)) = false := by decide) :
    PE ((cxOf CX0 X.prog X.w X.K X.mg X.base Ng qg sg g cdg X.A X.stack s H Eg).nox.tr pn xe) (.Call (.Name a p1) [] [] p2)
      (fun σZ HZ Q => σZ[j]? = some (some (.ref b)) ∧ HZ c1 = some (LamX.CodeO c1 (lamQ X)) ∧ tb (fun cls d _ H' => W cls d σZ H') σ HZ Q) := by
  refine ⟨fun pz sZ σZ HZ Q IZ hq => ?_⟩
  obtain ⟨q1, q2, q3⟩ := hq
  have look := (pe_var (X := (cxOf CX0 X.prog X.w X.K X.mg X.base Ng qg sg g cdg X.A X.stack s H Eg).nox.tr pn xe) (pos := p1) (i := j) hN hv hd hcd).run pz sZ σZ HZ (fun v H1 => v = .ref b ∧ H1 = HZ) IZ ⟨.ref b, q1, rfl, rfl⟩
  refine wpAny_Call_Name_kw (thn look ?_)
  rintro u s1 ⟨v, H1, I1, rv, ev, eH⟩
  subst ev eH
  obtain rfl : u = Value.ref b := rv
  have un : Un (frs X.stack) [] H H1 s.heap s1.heap := I1.base
  have ob1 := un.keep b _ ob nb nf (by simp)
  refine PySem.W.callWith_F0 ⟨_, _, _, _, ob1⟩ ?_
  obtain ⟨⟨oc, vs, t, o1, o2, o3⟩, _, _⟩ := I1.hok c1 _ q2
  have rc : codeAny (model X.prog X.w) (X.A.deeper (envOfC qg sg s.heap.objs.size g cdg)) (.call (.ref b) ⟨[], []⟩) (CR (L2N.CX X.prog X.w) (envOfC qg sg s.heap.objs.size g cdg :: X.stack) X.prog X.w H1 s1 Q (fun cls d H' => W cls d σZ H')) s1 := by
    refine PySem.W.kla_callFunE hr.depth ob1 rfl L.co L.gen rfl ⟨c1, oc, vs, t, rfl, o1, o2, o3⟩ ?_
    rw [bind]
    refine wpAny_pure (wpAny_newFunctionEnv (fun y hy => (L.own y hy).2) (fun y hy => nomatch hy) (fun h1 hns hsb => ⟨I1.nolimit.fresh _ hsb, ?_⟩) L.kind)
    have kp : ∀ z o, s1.heap.get? z = some o → h1.get? z = some o := fun z o e => hsb.extBut z o (Nat.ne_of_lt (Heap.lt_size e)) (Heap.get?_push_of_some _ e)
    have J := LamX.lam_start2 (E := fun cls d H' => W cls d σZ H') (f := b) (c' := c1) (tk := s1.toks + ([] : List (Str × Value)).length) I L I1.env0 hr.hd un hns kp
    let Y := LamX.lamCx X (X.A.deeper (envOfC qg sg s.heap.objs.size g cdg)) (envOfC qg sg s.heap.objs.size g cdg :: X.stack) s1 H1 (fun cls d H' => W cls d σZ H') scope b c1
    let xl : Value → Shared → Prop := fun e s' => wpAny (model X.prog X.w) Y.A (leaving Y.env e) (fun _ s2 => L2N.CX X.prog X.w Y.outer Y.H_0 Y.s_0 (fun cls d H' => W cls d σZ H') e s2) (fun e2 s2 => L2N.CX X.prog X.w Y.outer Y.H_0 Y.s_0 (fun cls d H' => W cls d σZ H') e2 s2) s'
    have tkl : L2N.Takes (Y.tr [] xl) (fun cls d _ H' => W cls d σZ H') := L2N.takes_of (X := Y.tr [] xl) rfl rfl rfl rfl
    have z : LI (oneX X) scope k (fun cls d _ H' => W cls d σZ H') := ⟨(), _, _, s1, H1, _, b, c1, xl, hr.deeper _, hg, tkl, L2.passes_of (X := Y.tr [] xl) rfl⟩
    have pb : PE (Y.tr [] xl) body (tb fun cls d _ H' => W cls d σZ H') := hbody (fun cls d _ H' => W cls d σZ H') ⟨(), _, _, s1, H1, _, b, c1, xl, hr.deeper _, hg, tkl, L2.passes_of (X := Y.tr [] xl) rfl⟩
    refine PySem.W.kla_codeExpr (wpAny_mono (pb.run [] _ _ H1 Q (J.toTry xl) q3) ?_ fun e s' hq => hq)
    rintro v s' ⟨x, H2, J2, rx, hx⟩
    exact ⟨x, H2, J2.os, J2.bare, J2.base, J2.hok, rx, hx⟩
  refine wpAny_call (codeAny_mono rc fun r s' hq => ?_)
  match r, hq with
  | .ok (.ret u), hq => exact I1.after hq
  | .error e, hq => exact L2N.passAt tk σZ pz H1 s1 e s' I1 hq
  | .ok .next, hq => exact False.elim hq
  | .ok .brk, hq => exact False.elim hq
  | .ok .cont, hq => exact False.elim hq
end
end DL
namespace DL
open PySem L2 PySem.Spec PyProof.Rows
def TabΦ (P : Addr) (q : Str) : Hp → Hp → PyData → V → List Addr → Prop := fun G H d v A => A = [P] ∧ G P = none ∧ ∃ ps : Array Value, H P = some (.tbl ps) ∧ TabG G q ps
theorem TabG.mono {G G' : Hp} {q : Str} {ps : Array Value} (t : TabG G q ps) (e : Same G G') : TabG G' q ps := ⟨t.1, fun pos cv h => (t.2 pos cv h).imp fun _ z => ⟨z.1, e _ _ z.2⟩⟩
theorem tabOk {P : Addr} {q : Str} : GOk (TabΦ P q) where
  at_ := fun ⟨e, h1, ps, h2, _⟩ a ha => by
    subst e
    obtain rfl := List.mem_singleton.mp ha
    exact ⟨h1, _, h2⟩
  kd := fun ⟨e, _, ps, h2, _⟩ a ha => by
    subst e
    obtain rfl := List.mem_singleton.mp ha
    exact .inr (.inr (.inr (.inr (.inr ⟨_, h2⟩))))
  fr := fun ⟨e, h1, ps, h2, t⟩ sg hg hh => by
    subst e
    exact ⟨rfl, hg P (List.mem_singleton.mpr rfl), ps, (hh P (List.mem_singleton.mpr rfl)).trans h2, t.mono sg⟩
def ActΦ (K : PySem.W.Frag) (b c1 : Addr) (q : Str) (mL : List Ty) (σ : L2.St) (e : En) (d0 : PyData) : Hp → Hp → PyData → V → List Addr → Prop := fun G H d v A => A = [] ∧ v = .ref b ∧ d = d0 ∧ G c1 = some (LamX.CodeO c1 q) ∧ OwnA K G H mL e σ []
theorem actOk {K : PySem.W.Frag} {b c1 : Addr} {q : Str} {mL : List Ty} {σ : L2.St} {e : En} {d0 : PyData} : GOk (ActΦ K b c1 q mL σ e d0) where
  at_ := fun ⟨z, _⟩ a ha => by subst z; cases ha
  kd := fun ⟨z, _⟩ a ha => by subst z; cases ha
  fr := fun ⟨z, h1, h2, h3, h4⟩ sg _ _ => ⟨z, h1, h2, sg _ _ h3, ownA_fr h4 sg (fun a ha => by cases ha) fun a ha => by cases ha⟩
def hideS (m : List Ty) : List Ty := m.map fun t => match t with
  | .s => .s
  | _ => .u
theorem hideS_stb {m : List Ty} : ∀ t ∈ hideS m, stb t = true := fun t ht => by
  obtain ⟨x, _, rfl⟩ := List.mem_map.mp ht
  cases x <;> rfl
theorem hideS_own {K : PySem.W.Frag} {G H : Hp} : ∀ {m : List Ty} {e : En} {σ : L2.St} {A : List Addr}, OwnA K G H m e σ A → OwnA K G H (hideS m) e σ []
  | [], _, _, _, h => by cases h; exact .nil
  | t :: m, _, _, _, h => by
    cases h with
    | @cons _ _ d ds v vs A B h1 h2 =>
      have ih := hideS_own h2
      by_cases ht : t = .s
      · subst ht
        cases h1 with
        | s q => exact OwnA.cons (A := []) (.s q) ih
      · have : hideS (t :: m) = .u :: hideS m := by cases t <;> first | rfl | exact absurd rfl ht
        rw [this]
        exact OwnA.cons (A := []) (.u _ _) ih
section
variable {K : PySem.W.Frag} {G H H1 : Hp} {m : List Ty} {σ : L2.St} {e : En} {A : List Addr} {P c1 : Addr} {q : Str} {pos : Pos} {ps : Array Value}
theorem tab_snoc {G' : Hp} (t : TabG G q ps) (sg : Same G G') (h : G' c1 = some (LamX.CodeO c1 q)) : TabG G' q (ps ++ #[rawInt pos.line, rawInt pos.col, .ref c1]) := by
  have e : (ps ++ #[rawInt pos.line, rawInt pos.col, .ref c1]).toList = ps.toList ++ [rawInt pos.line, rawInt pos.col, .ref c1] := by simp
  refine ⟨by rw [e]; exact PySem.TriplesOk_snoc _ _ _ _ t.1, fun p cv z => ?_⟩
  rw [e] at z
  rcases LamX.among_app _ t.1 z with z | z
  · exact (t.mono sg).2 p cv z
  · exact ⟨c1, z, h⟩
theorem stt_tab {j : Nat} (st : Stt K m G H σ e A) (hm : m[j]? = some (.g (TabΦ P q))) : ∃ ps, H P = some (.tbl ps) ∧ TabG G q ps := by
  obtain ⟨d, v, Aj, A0, h1, h2, h3, h4, hp⟩ := ownA_take st.own hm
  cases h3 with
  | g _ h => exact h.2.2
theorem stt_growT {j : Nat} (st : Stt K m G H σ e A) (hm : m[j]? = some (.g (TabΦ P q))) (hP : H P = some (.tbl ps)) (gr : Grew H P ps pos q c1 H1) :
    ∃ G1 A1, Stt K m G1 H1 σ e A1 ∧ Step A G H A1 G1 H1 ∧ G1 c1 = some (LamX.CodeO c1 q) := by
  obtain ⟨d, v, Aj, A0, h1, h2, h3, h4, hp⟩ := ownA_take st.own hm
  cases h3 with
  | @g _ _ v _ ok h =>
    obtain ⟨eA, gP, ps', hP', tg⟩ := h
    rw [hP] at hP'
    cases hP'
    subst eA
    rcases gr with ⟨rfl, hc⟩ | ⟨hc, rfl⟩
    · obtain ⟨c2, ec, kn⟩ := tg.2 _ _ hc
      cases ec
      exact ⟨G, A, st, Step.refl, kn⟩
    · have gc : G c1 = none := by
        cases z : G c1 with
        | none => rfl
        | some o => rw [st.sub _ _ z] at hc; cases hc
      have ne : P ≠ c1 := ne_of_none hP hc
      have sg : Same G (upd G c1 (LamX.CodeO c1 q)) := fun b o z => by rw [upd_ne (ne_of_none z gc)]; exact z
      have nd : ([P] ++ A0).Nodup := hp.nodup_iff.mp st.nd
      have at0 := ownA_at h4
      have nP : ∀ a ∈ A0, a ≠ P := fun a ha z => (List.nodup_append.mp nd).2.2 P (List.mem_singleton.mpr rfl) a ha z.symm
      have nC : ∀ a ∈ A0, a ≠ c1 := fun a ha z => by
        obtain ⟨_, o, q⟩ := at0 a ha
        rw [z, hc] at q
        cases q
      have o0 := ownA_fr h4 (G' := upd G c1 (LamX.CodeO c1 q)) (H' := upd (upd H P (.tbl (ps ++ #[rawInt pos.line, rawInt pos.col, .ref c1]))) c1 (LamX.CodeO c1 q)) sg (fun a ha => by rw [upd_ne (nC a ha)]; exact (at0 a ha).1)
        fun a ha => by rw [upd_ne (nC a ha), upd_ne (nP a ha)]
      have hj : (m.set j .u)[j]? = some .u := by
        have := (List.getElem?_eq_some_iff.mp hm).1
        simp [this]
      have new : Own K (upd G c1 (LamX.CodeO c1 q)) (upd (upd H P (.tbl (ps ++ #[rawInt pos.line, rawInt pos.col, .ref c1]))) c1 (LamX.CodeO c1 q)) (.g (TabΦ P q)) d (some v) [P] :=
        .g tabOk ⟨rfl, by rw [upd_ne ne]; exact gP, _, by rw [upd_ne ne, upd_same], tab_snoc tg sg upd_same⟩
      obtain ⟨A', o', p'⟩ := ownA_put o0 hj new
      rw [List.set_set, set_id hm, set_id h1, set_id h2] at o'
      have pA : A'.Perm A := p'.trans hp.symm
      refine ⟨_, A', ⟨o', pA.nodup_iff.mpr st.nd, fun b o z => ?_⟩, ⟨sg, fun a o z na => ?_, fun a ha => .inl (pA.mem_iff.mp ha), fun a z1 z2 => .inr ?_⟩, upd_same⟩
      · by_cases hb : b = c1
        · subst hb
          rw [upd_same] at z ⊢
          exact z
        · rw [upd_ne hb] at z ⊢
          rw [upd_ne (fun w => by subst w; rw [gP] at z; cases z)]
          exact st.sub _ _ z
      · have nPa : a ≠ P := fun w => na (hp.mem_iff.mpr (by rw [w]; simp))
        rw [upd_ne (ne_of_none z hc), upd_ne nPa]
        exact z
      · obtain ⟨o, z2⟩ := z2
        by_cases hb : a = c1
        · rw [hb]; exact hc
        · rw [upd_ne hb, z1] at z2
          cases z2
end
section
variable {X : Cx} {P : Program} {w : World} {K : PySem.W.Frag} {mg : Str → Option Value} {base : Heap} {n : Nat} [F : Fam (oneX X) P w K mg base n]
variable {pins : List (Addr × Obj)} {σ : L2.St} {H : Hp} {s : Shared}
include F in
theorem px_act {Eg : XK} {Ng : List Str} {qg : Str} {sg : Scope} {g b c1 : Addr} {cdg pm ct : Value} {params : Arguments} {body : Expr} {scope : Scope} {k : Nat} {a : Str} {W : WX} {p1 p2 : Pos} {mL m : List Ty} {e : En} {d0 : PyData} {tb : CT} {Fb : DFn} {fr : Lf}
    (I : L2.Inv X pins σ H s) (L : LamX.LamS X.env.scope scope) (ob : s.heap.get? b = some (PySem.W.kla_obj "<lambda>" (lamQ X) params body scope (cloFrom X.env.cells scope.names []) pm c1 ct)) (nb : H b = none) (nf : b ∉ frs X.stack)
    (bind : bindArgs (PySem.W.kla_fn "<lambda>" (lamQ X) params body scope (cloFrom X.env.cells scope.names []) pm (.ref c1) ct) ⟨[], []⟩ = pure [])
    (hr : Room (k + 1) (X.A.deeper (envOfC qg sg s.heap.objs.size g cdg))) (hg : (X.A.deeper (envOfC qg sg s.heap.objs.size g cdg)).guards = some [])
    (hB : ∀ W : WX, PDX (lamF (oneX X) scope k W) W K mg mL body .s (xCall (decF tb Fb) fr) mL) (hs : ∀ t ∈ mL, stb t = true) (he : eCall Fb fr e = some (d0, e))
    (hN : Ng[0]? = some a) (hv : Vis sg a) (hd : (a == ("__debug__" : Str)) = false) (hcd : (a == ("__classdict__" : Str)) = false)
    (hm : m[0]? = some (.g (ActΦ K b c1 (lamQ X) mL σ e d0))) :
    PDX (tryF (oneX (cxOf CX0 P w K mg base Ng qg sg g cdg X.A X.stack s H Eg).nox) W) W K mg m (.Call (.Name a p1) [] [] p2) .s (xDec tb (eVar 0)) m := by
  have e1 := F.prog ()
  have e2 := F.w_ ()
  have e3 := F.kk ()
  have e4 := F.mg_ ()
  have e5 := F.base_ ()
  simp only [oneX] at e1 e2 e3 e4 e5
  subst e1 e2 e3 e4 e5
  refine ⟨_, fun z => pe_actX (tb := fun W => (hB W).ex.choose) I L ob nb nf bind z.tk hr hg (fun W y => (hB W).ex.choose_spec.1 y) hN hv hd hcd, fun {G H1 σZ eZ A r e' Q} st hf kk => ?_⟩
  obtain ⟨⟨d1, eZ1⟩, hf1, hf2⟩ := oBs hf
  obtain ⟨r1, hf3, hf4⟩ := oBs hf2
  cases hf4
  cases hf1
  obtain ⟨d, v, Aj, A0, h1, h2, h3, h4, hp⟩ := ownA_take st.own hm
  cases h3 with
  | @g _ _ v _ ok h =>
    obtain ⟨_, rfl, rfl, hc, o⟩ := h
    rw [List.getD_eq_getElem?_getD, h1] at hf3
    refine ⟨h2, st.sub _ _ hc, ?_⟩
    have st0 : Stt X.K mL G H1 σ e [] := ⟨o, List.nodup_nil, st.sub⟩
    obtain ⟨⟨ds, ea⟩, z1, z2⟩ := oBs he
    obtain ⟨⟨dv, fs⟩, z3, z4⟩ := oBs z2
    cases z4
    have hx : xCall (decF tb Fb) fr ea = some (r, ea) := by
      unfold xCall decF
      rw [z1, Option.bind_some]
      show (((Fb ds).bind fun q => decR tb q.1).bind _ : Option (Res × En)) = _
      rw [z3, Option.bind_some]
      show ((decR tb dv).bind _ : Option (Res × En)) = _
      rw [show decR tb dv = some r from hf3]; rfl
    refine (hB _).ex.choose_spec.2 st0 hx ?_
    have s0 : Step A G H1 (A ++ []) G H1 := by rw [List.append_nil]; exact Step.refl
    have nd0 : (A ++ []).Nodup := by rw [List.append_nil]; exact st.nd
    cases r with
    | ok dr =>
      intro G2 H2 v2 Av A2 s2 st2 o2 nd2
      have zA := stab_nil st2.own hs
      subst zA
      cases o2 with
      | s q2 =>
        obtain ⟨s3, nd3, hg', hh'⟩ := s0.seq (ownA_at st.own) nd0 s2 List.nodup_nil
        have st3 : Stt X.K m G2 H2 σZ eZ A := ⟨ownA_fr st.own s2.sg hg' hh', st.nd, st2.sub⟩
        exact kk G2 H2 v2 [] A (by simpa using s3) st3 (.s q2) st.nd
    | ex c fl =>
      intro G2 H2 A2 cls dx s2 st2 ex
      have zA := stab_nil st2.own hs
      subst zA
      obtain ⟨s3, nd3, hg', hh'⟩ := s0.seq (ownA_at st.own) nd0 s2 List.nodup_nil
      have st3 : Stt X.K m G2 H2 σZ eZ A := ⟨ownA_fr st.own s2.sg hg' hh', st.nd, st2.sub⟩
      exact kk G2 H2 A cls dx (by simpa using s3) st3 ex
end
structure Giv (P : Program) (w : World) (K : PySem.W.Frag) (mg : Str → Option Value) (base : Heap) (k : Nat) (x : Str) (st : Stmt) (Ng : List Str) (a : Str) (tb : CT) (sf : Sf) (r : Nat) : Prop where
  run : ∀ (Φ : Hp → Hp → PyData → V → List Addr → Prop) (g : Addr) (cdv : Value) (A : Around) (outer : List Env) (s : Shared) (H : Hp) (E : XK), Fam (oneX (cxOf CX0 P w K mg base Ng x (defScope st) g cdv A outer s H E).nox) P w K mg base k → FamG (oneX (cxOf CX0 P w K mg base Ng x (defScope st) g cdv A outer s H E).nox) → FamN (oneX (cxOf CX0 P w K mg base Ng x (defScope st) g cdv A outer s H E).nox) →
    (∀ (W : WX) (m : List Ty) (p1 p2 : Pos), m[0]? = some (.g Φ) → PDX (tryF (oneX (cxOf CX0 P w K mg base Ng x (defScope st) g cdv A outer s H E).nox) W) W K mg m (.Call (.Name a p1) [] [] p2) .s (xDec tb (eVar 0)) m) →
    ∃ mr, PSsd (oneX (cxOf CX0 P w K mg base Ng x (defScope st) g cdv A outer s H E).nox) K ⟨[], [], mr, [], .s⟩ (.g Φ :: List.replicate r .u) (defBody st) sf mr
structure CalL (P : Program) (w : World) (K : PySem.W.Frag) (mg : Str → Option Value) (base : Heap) (k : Nat) (x : Str) (tb : CT) (sf : Sf) (r : Nat) : Prop where
  ex : ∃ (st : Stmt) (g : Addr) (fd : FuncData) (Ng : List Str) (a : Str), Giv P w K mg base k x st Ng a tb sf r ∧ L2.Fun K x x st g fd ∧ mg x = some (.ref g) ∧ Binds K fd [a] [] ∧ FnScope Ng [a] (defScope st) ∧ Ng.length = 1 + r ∧ Ng[0]? = some a ∧ Vis (defScope st) a ∧ (a == ("__debug__" : Str)) = false ∧ (a == ("__classdict__" : Str)) = false
section
variable {ι : Type} {Xf : ι → Cx} {P : Program} {w : World} {K : PySem.W.Frag} {mg : Str → Option Value} {base : Heap} {n : Nat} [F : Fam Xf P w K mg base n] [FG : FamG Xf]
variable {m : List Ty} {p pos lpos : Pos}
include F FG in
theorem pd_lamcall {kc kl r : Nat} {x q : Str} {Pt c : Addr} {params : Arguments} {body : Expr} {scope : Scope} {mL : List Ty} {tb : CT} {sf : Sf} {Fb : DFn} {fr : Lf} (tj : Nat) (C : CalL P w K mg base kc x tb sf r) (TB : LamX.TabB base mg c Pt)
    (hB : ∀ W : WX, PDX (lamF Xf scope kl W) W K mg mL body .s (xCall (decF tb Fb) fr) mL) (hp : PureE (eCall Fb fr)) (nn : NoNx sf) (hm : m[tj]? = some (.g (TabΦ Pt q)) := by rfl) (hL : hideS m = mL := by rfl) (hk : kl + 1 ≤ kc := by decide) (hk2 : kc + 1 ≤ n := by decide)
    (hco : ∀ i, (Xf i).env.code = .ref c := by intro _; rfl) (hq : ∀ i, lamQ (Xf i) = q := by intro _; rfl) (L : ∀ i, LamX.LamS (Xf i).env.scope scope := by intro _; exact LamX.lamS_by (by decide +kernel))
    (nd : ∀ i, defaultsOf params (Xf i).env = ([], []) := by intro _; rfl) (bind : ∀ (q : Str) (cl : List (Str × Addr)) (pm cv ct : Value), bindArgs (PySem.W.kla_fn "<lambda>" q params body scope cl pm cv ct) ⟨[], []⟩ = pure [] := by intros; rfl)
    (hg : ∀ i, Gl (Xf i) x := by intro _; rfl) (hdb : (x == ("__debug__" : Str)) = false := by decide) :
    PD Xf K m (.Call (.Name x p) [.Lambda params body scope lpos] [] pos) .s (eCall (runF sf [.s] r) (lCons (eCall Fb fr) lNil)) m := by
  obtain ⟨st, g, fd, Ng, a, GV, FU, hmg, bnd, SC, hl, hN, hv, hd, hcd⟩ := C.ex
  refine ⟨fun σ H Q => ∃ ps, H Pt = some (.tbl ps) ∧ TabG H q ps ∧ ∀ (b c1 : Addr) (H1 : Hp), Grew H Pt ps lpos q c1 H1 → H1 b = none → ∃ (G1 : Hp) (e : En) (d0 d : PyData) (e9 : En), OwnA K G1 H1 mL e σ [] ∧ Same G1 H1 ∧ G1 c1 = some (LamX.CodeO c1 q) ∧ eCall Fb fr e = some (d0, e) ∧
      sf (d0 :: List.replicate r .none) = some (.rt d, e9) ∧ ∀ (G2 H2 : Hp) (v : V) (Av : List Addr), Step [] G1 H1 Av G2 H2 → Own K G2 H2 .s d (some v) Av → Av.Nodup → Same G2 H2 → Q v H2, fun i => ?_, fun {G H σ e A d e' Q} st0 hf kk => ?_⟩
  · have e1 := F.prog i
    have e2 := F.w_ i
    have e3 := F.kk i
    have e4 := F.mg_ i
    have e5 := F.base_ i
    subst e1 e2 e3 e4 e5
    refine ⟨fun pins s σ H Q I ⟨ps, hP, tg, hh⟩ => ?_⟩
    refine wpAny_Call_Name_kw (ld_glob I (hg i) hmg ?_ hdb)
    refine PySem.W.callWith_K (h₀ := (Xf i).base) I.ok.mod.kin FU.kp ?_ (by rfl) (by rfl)
    show wpAny _ _ (spliced ((false, eval (.Lambda params body scope lpos) (Xf i).env) :: backTo pos (starEach [] (Xf i).env))) _ _ s
    have hQ := hq i
    subst hQ
    refine Calls.spliced_cons (lam_mk I TB (hco i) hP tg (nd i) ((L i).has I.ok) ?_)
    intro b c1 pm ct H1 s1 I1 gr ob nb nf
    refine Calls.spliced_nil ⟨I1.kIn, ?_⟩
    obtain ⟨G1, e, d0, d, e9, o1, sub1, hc1, he, hs, fin⟩ := hh b c1 H1 gr nb
    have rm := (rmOf F FG i).mono hk2
    obtain ⟨oc, od, kV, doc, pm2, an, cdv, ct2, osl, efd, lk, hcd2⟩ := FU.ex
    subst efd
    have rc : codeAny (model (Xf i).prog (Xf i).w) (Xf i).A (.call (.ref g) ⟨[.ref b], []⟩) (CR CX0 (Xf i).stack (Xf i).prog (Xf i).w H1 s1 Q E0) s1 := by
      refine LamX.run_ofS (N := Ng) (ps := [a]) (us := [.ref b]) (vs := [.ref b]) (CX := CX0) lk hcd2 SC rm I1.env0 (by have := bnd s1 [.ref b] I1.kIn rfl; simpa using this) (.cons rfl .nil) rfl fun hr' => ?_
      have FX : Fam (oneX (cxOf CX0 (Xf i).prog (Xf i).w (Xf i).K (Xf i).mg (Xf i).base Ng x (defScope st) g cdv (Xf i).A (Xf i).stack s1 H1 E0).nox) (Xf i).prog (Xf i).w (Xf i).K (Xf i).mg (Xf i).base kc := fam_one SC hr'
      haveI F1 : Fam (oneX (Xf i)) (Xf i).prog (Xf i).w (Xf i).K (Xf i).mg (Xf i).base n := ⟨fun _ => rfl, fun _ => rfl, fun _ => rfl, fun _ => rfl, fun _ => rfl, fun _ => F.room i, fun _ => F.nd i⟩
      have act : ∀ (W : WX) (m : List Ty) (p1 p2 : Pos), m[0]? = some (.g (ActΦ (Xf i).K b c1 (lamQ (Xf i)) mL σ e d0)) →
          PDX (tryF (oneX (cxOf CX0 (Xf i).prog (Xf i).w (Xf i).K (Xf i).mg (Xf i).base Ng x (defScope st) g cdv (Xf i).A (Xf i).stack s1 H1 E0).nox) W) W (Xf i).K (Xf i).mg m (.Call (.Name a p1) [] [] p2) .s (xDec tb (eVar 0)) m := fun W m p1 p2 hm0 =>
        px_act (k := kl) I1 (L i) ob nb nf (bind _ _ _ _ _) (hr'.mono hk) (FG.gd i) (fun W => (by
          obtain ⟨te, pe, de⟩ := (hB W).ex
          exact ⟨te, fun z => pe ⟨i, z.A, z.outer, z.s, z.H, z.E, z.f, z.c1, z.xe, z.rm, z.gd, z.tk, z.ps⟩, de⟩)) (by rw [← hL]; exact hideS_stb) he hN hv hd hcd hm0
      obtain ⟨mr, ps1⟩ := GV.run (ActΦ (Xf i).K b c1 (lamQ (Xf i)) mL σ e d0) g cdv (Xf i).A (Xf i).stack s1 H1 E0 FX ⟨fun _ => FG.gd i, fun _ => rfl, fun _ => hr'.hd⟩ ⟨fun _ => PassesOwn.never⟩ act
      obtain ⟨t, pt, dt⟩ := ps1.ex
      refine ⟨t, (pt ()).nox, ?_⟩
      have hst : L2.start Ng [V.ref b] = some (.ref b) :: List.replicate r none := by
        unfold L2.start
        rw [show Ng.length - [V.ref b].length = r by simp; omega]; rfl
      have o2 : OwnA (Xf i).K G1 H1 (.g (ActΦ (Xf i).K b c1 (lamQ (Xf i)) mL σ e d0) :: List.replicate r .u) (d0 :: List.replicate r .none) (L2.start Ng [V.ref b]) [] := by
        rw [hst]
        exact ownA_us (ts := [_]) (ds := [_]) (vs := [_]) r (OwnA.cons (A := []) (.g actOk ⟨rfl, rfl, rfl, hc1, o1⟩) .nil)
      refine dt ⟨o2, List.nodup_nil, sub1⟩ hs ?_
      intro G2 H2 σ2 v Av A2 s2 st2 ov ndv _
      have nn := List.nodup_append.mp ndv
      exact fin G2 H2 v Av (s2.less fun a ha => List.mem_append_left _ ha) ov nn.1 st2.sub
    refine wpAny_call (codeAny_mono rc fun r s' hq => ?_)
    match r, hq with
    | .ok (.ret u), hq => exact I1.after hq
    | .error e, hq => exact (show False from hq).elim
    | .ok .next, hq => exact False.elim hq
    | .ok .brk, hq => exact False.elim hq
    | .ok .cont, hq => exact False.elim hq
  · obtain ⟨⟨ds, e1⟩, hf0, hf2⟩ := oBs hf
    obtain ⟨⟨d0, e2⟩, hf1, hf3⟩ := oBs hf0
    have z := hp _ _ _ hf1
    subst z
    cases hf3
    obtain ⟨⟨dv, fs⟩, hf4, hf5⟩ := oBs hf2
    cases hf5
    obtain ⟨⟨oo, e9⟩, hf3, hf4⟩ := oBs hf4
    match oo, hf3, hf4 with
    | .nx, hf3, _ => exact absurd hf3 (nn _ _)
    | .rt d1, hf3, hf4 =>
      cases hf4
      obtain ⟨ps, hP, tg⟩ := stt_tab st0 hm
      refine ⟨ps, hP, tg.mono st0.sub, fun b c1 H1 gr nb => ?_⟩
      obtain ⟨G1, A1, st1, s1, hc1⟩ := stt_growT st0 hm hP gr
      refine ⟨G1, e2, d0, dv, e9, by rw [← hL]; exact hideS_own st1.own, st1.sub, hc1, hf1, hf3, fun G2 H2 v Av s2 ov ndv sub2 => ?_⟩
      have s1' : Step A G H (A1 ++ []) G1 H1 := by rw [List.append_nil]; exact s1
      have nd1' : (A1 ++ []).Nodup := by rw [List.append_nil]; exact st1.nd
      obtain ⟨s3, nd3, hg', hh'⟩ := s1'.seq (ownA_at st1.own) nd1' s2 ndv
      have st2 : Stt K m G2 H2 σ e2 A1 := ⟨ownA_fr st1.own s2.sg hg' hh', st1.nd, sub2⟩
      have n3 := List.nodup_append.mp nd3
      refine kk G2 H2 v Av A1 (s3.less fun a ha => ?_) st2 ov (List.nodup_append.mpr ⟨n3.2.1, n3.1, fun a ha b hb z => n3.2.2 b hb a ha z.symm⟩)
      rcases List.mem_append.mp ha with z | z
      · exact List.mem_append_right _ z
      · exact List.mem_append_left _ z
end
end DL
namespace DL
open PySem L2 PySem.Spec PyProof.Rows
theorem inv_ghost {X : Cx} {pins : List (Addr × Obj)} {σ : L2.St} {H : Hp} {s : Shared} {j : Nat} {y : Str} (I : L2.Inv X pins σ H s) (hN : X.N[j]? = some y) (nv : ¬ Vis X.env.scope y) (v : V) : L2.Inv X pins (σ.set j (some v)) H s := by
  obtain ⟨m, n1, n2⟩ := I.loc
  refine ⟨I.ok, I.os, I.bare, I.base, ⟨m, n1, fun i x u h1 h2 h3 => n2 i x u h1 ?_ h3⟩, I.cell, I.free, I.freeC, I.pin, I.hok, by rw [List.length_set]; exact I.len⟩
  by_cases e : i = j
  · subst e
    rw [hN] at h1
    cases h1
    exact absurd h3 nv
  · rwa [List.getElem?_set_ne (fun z => e z.symm)] at h2
def spT (K : PySem.W.Frag) (Pt : Addr) (Fn : DFn) : Sp := fun vs H Q _ =>
  vs.length = 1 ∧ H Pt = some (.tbl #[]) ∧ ∃ (ds : List PyData) (d : PyData) (fs : List PyData) (G : Hp), Fn ds = some (d, fs) ∧ OwnA K G H [.q] ds (vs.map some) [] ∧ Same G H ∧ G Pt = none ∧ ∀ (G' H' : Hp) (v : V), Dq K G' v d → Q v H'
theorem fnG_ofT {P : Program} {w : World} {K : PySem.W.Frag} {mg : Str → Option Value} {base : Heap} {x qual : Str} {st : Stmt} {f c : Addr} {fd : FuncData} {N ps : List Str} {k : Nat} {sp : Sp} (F : L2.Fun K x qual st f fd) (hc : fd.code = .ref c) (S : FnScope N ps (defScope st)) (len : ∀ vs H Q E, sp vs H Q E → vs.length = ps.length) (j : Nat) {y : Str} (hN : N[j]? = some y) (nv : ¬ Vis (defScope st) y)
    (hbody : ∀ (A : Around) (outer : List Env) (s : Shared) (H : Hp) (vs : List V) (Q : VK) (E : XK), Room k (A.deeper (envOfC qual (defScope st) s.heap.objs.size f (.ref c))) → (A.deeper (envOfC qual (defScope st) s.heap.objs.size f (.ref c))).guards = some [] → sp vs H Q E →
      ∃ t, PSs (cxOf CX0 P w K mg base N qual (defScope st) f (.ref c) A outer s H E).nox (defBody st) t ∧ t { nx := fun _ H' => Q .non H', rt := Q } ((start N vs).set j (some .non)) H) : FnG P w K mg base (k + 1) f fd ps sp := by
  obtain ⟨oc, od, kV, doc, pm, an, cdv, ct, osl, rfl, lk, hcd⟩ := F.ex
  obtain rfl : cdv = .ref c := hc
  refine ⟨len, fun A outer s H args us vs Q E room gd e0 bind rel wish => ?_⟩
  have KX : K.In s.heap := e0.mod.kin.keeps fun b o e => (e0.bs b o e).1
  obtain ⟨t, bt, bq⟩ := hbody A outer s H vs Q E (room.deeper _) gd wish
  have kinds : ∀ y ∈ ps.zip us, (defScope st).names.lookup y.1 = some .local ∨ ((defScope st).names.lookup y.1 = some .cell ∧ ((cellsFrom (s.heap.objs.size + 1) (defScope st).names []).lookup y.1).isSome = true) := by
    rintro ⟨nm, val⟩ hy
    have hp := S.par nm (List.of_mem_zip hy).1
    exact hp.imp id fun c => ⟨c, PySem.W.cellsFrom_some _ _ _ (.inl c)⟩
  refine codeAny_call_function room.depth (KX _ _ lk) rfl S.co S.gen rfl (PySem.W.codeRec_of KX hcd) (bind _ _ _ _ ?_)
  refine wpAny_newFunctionEnv_cells S.kind kinds fun env he s1 ic => ?_
  subst he
  have lim := e0.mod.nolimit.keeps fun b o e => (e0.bs b o e).1
  refine ⟨Heap.NoLimit.keeps lim ic.toInCall.keep, codeAny_func ?_⟩
  have I0 := inv_ghost (j := j) (inv_start (CX := CX0) (E := E) S room.hd e0 (len _ _ _ _ wish) rel ic) hN nv .non
  refine wpAny_mono (bt.nox.run [] s1 _ H _ I0 bq) ?_ fun e s' z => z
  intro fl s' z
  cases fl with
  | ret u => obtain ⟨v, σ', H', J, rv, q⟩ := z; exact ⟨v, H', J.os, J.bare, J.base, J.hok, rv, q⟩
  | next => obtain ⟨σ', H', J, q⟩ := z; exact ⟨V.non, H', J.os, J.bare, J.base, J.hok, rfl, q⟩
  | brk => obtain ⟨_, _, _, q⟩ := z; exact q.elim
  | cont => obtain ⟨_, _, _, q⟩ := z; exact q.elim
theorem fnG_dlT {P : Program} {w : World} {K : PySem.W.Frag} {mg : Str → Option Value} {base : Heap} {x qual : Str} {st : Stmt} {f c Pt : Addr} {fd : FuncData} {N : List Str} {p y : Str} {k : Nat} {sf : Sf} {mr : List Ty} {r : Nat}
    (F : L2.Fun K x qual st f fd) (hc : fd.code = .ref c) (S : FnScope N [p] (defScope st)) (hr : N.length = r + 2) (hN : N[r + 1]? = some y) (nv : ¬ Vis (defScope st) y)
    (hbody : ∀ (A : Around) (outer : List Env) (s : Shared) (H : Hp) (E : XK), Fam (oneX (cxOf CX0 P w K mg base N qual (defScope st) f (.ref c) A outer s H E).nox) P w K mg base k → FamG (oneX (cxOf CX0 P w K mg base N qual (defScope st) f (.ref c) A outer s H E).nox) → FamN (oneX (cxOf CX0 P w K mg base N qual (defScope st) f (.ref c) A outer s H E).nox) →
      PSsd (oneX (cxOf CX0 P w K mg base N qual (defScope st) f (.ref c) A outer s H E).nox) K ⟨[], [], mr, [], .s⟩ (.q :: (List.replicate r .u ++ [.g (TabΦ Pt ((qual ++ ".<locals>.") ++ "<lambda>"))])) (defBody st) sf mr) : FnG P w K mg base (k + 1) f fd [p] (spT K Pt (runF sf [.q] (r + 1))) := by
  refine fnG_ofT F hc S (fun vs H Q E h => h.1) (r + 1) hN nv fun A outer s H vs Q E room gd h => ?_
  obtain ⟨hv1, hP, ds, d, fs, G, hF, o0, sub, gP, kont⟩ := h
  obtain ⟨t, pt, dt⟩ := (hbody A outer s H E (fam_one S room) ⟨fun _ => gd, fun _ => rfl, fun _ => room.hd⟩ ⟨fun _ => PassesOwn.never⟩).ex
  refine ⟨t, pt (), ?_⟩
  obtain ⟨⟨o, e'⟩, h1, h2⟩ := oBs hF
  obtain ⟨v0, rfl⟩ : ∃ v0, vs = [v0] := by
    match vs, hv1 with
    | [v0], _ => exact ⟨v0, rfl⟩
  obtain ⟨d0, rfl⟩ : ∃ d0, ds = [d0] := by
    have := (ownA_len o0).1
    match ds, this with
    | [d0], _ => exact ⟨d0, rfl⟩
  have hst : (L2.start N [v0]).set (r + 1) (some V.non) = some v0 :: (List.replicate r none ++ [some V.non]) := by
    unfold L2.start
    rw [show N.length - [v0].length = r + 1 by simp [hr]]
    show (some v0 :: List.replicate (r + 1) none).set (r + 1) (some V.non) = _
    rw [List.set_cons_succ, List.replicate_succ']
    congr 1
    rw [List.set_append_right _ _ (by simp)]
    simp
  have tab : Own K G H (.g (TabΦ Pt ((qual ++ ".<locals>.") ++ "<lambda>"))) .none (some V.non) [Pt] := .g tabOk ⟨rfl, gP, #[], hP, True.intro, fun pos cv z => by simp [codeAmong] at z⟩
  have us : ∀ r : Nat, OwnA K G H (List.replicate r .u ++ [.g (TabΦ Pt ((qual ++ ".<locals>.") ++ "<lambda>"))]) (List.replicate r .none ++ [.none]) (List.replicate r none ++ [some V.non]) [Pt] := fun r => by
    induction r with
    | zero => exact OwnA.cons (A := [Pt]) (B := []) tab .nil
    | succ r ih => exact OwnA.cons (A := []) (.u _ _) ih
  have st0 : Stt K (.q :: (List.replicate r .u ++ [.g (TabΦ Pt ((qual ++ ".<locals>.") ++ "<lambda>"))])) G H ((L2.start N [v0]).set (r + 1) (some V.non)) ([d0] ++ List.replicate (r + 1) .none) [Pt] := by
    refine ⟨?_, by simp, sub⟩
    rw [hst, List.replicate_succ']
    obtain ⟨dz, vz, Aj, A0, z1, z2, z3, z4, _⟩ := ownA_take o0 (j := 0) (t := .q) rfl
    cases z1
    cases z2
    obtain rfl := own_stb z3 rfl
    exact OwnA.cons (A := []) z3 (us r)
  refine dt st0 h1 ?_
  cases o with
  | nx =>
    cases h2
    exact fun G' H' σ' A' s' st' pn => kont G' H' .non .non
  | bk => cases h2
  | ct => cases h2
  | rt d1 =>
    cases h2
    intro G' H' σ' v Av A' s' st' ov ndv pn
    cases ov with
    | s q => exact kont G' H' v q
def hScrT (K : PySem.W.Frag) (a : Addr) (u : HO) (Pt : Addr) : Hp := fun b => if b = Pt then some (.tbl #[]) else hScr K a u b
section
variable {P : Program} {w : World} {K : PySem.W.Frag} {mg mb : Str → Option Value} {k : Nat} {fa a c Pt : Addr} {fd : FuncData} {x : Str} {s₁ : Shared} {vs : List Value} {ns : List Int} {Fn : DFn}
theorem law_callT (KX : K.In s₁.heap) (hns : s₁.heap.Ns mainGlobals mg) (hb : s₁.heap.Ns builtinsNs mb) (hbb : ∀ x : Str, x ≠ "__name__" → mb x = bootBuiltins x) (hlim : s₁.heap.NoLimit) (hg : s₁.gens = #[])
    (hT : s₁.heap.get? Pt = some { cls := .none, data := .fields #[] }) (nT : K.lookup Pt = none) (hC : PySem.W.codeHdIn K c Pt = true)
    (hbm : ∃ (bm : Addr) (ob : Obj), mg "__builtins__" = some (.ref bm) ∧ bm ≠ builtinsNs ∧ s₁.heap.get? bm = some ob ∧ ob.cls = .type "module" ∧ ob.dict = some builtinsNs ∧ ob.data = .plain)
    (ha : s₁.heap.get? a = some { cls := .type "list", data := .seq vs.toArray }) (hi : IntsAre vs ns) (hl : ns.length ≤ sizeLine) (hr : Room k callerA)
    (F : ∀ base : Heap, K.In base → base.Ns mainGlobals mg → LamX.TabB base mg c Pt → FnG P w K mg base k fa fd [x] (spT K Pt Fn)) (hbind : ∀ (s : Shared) (u : Value), BindsTo s fd ⟨[u], []⟩ [(x, u)])
    (hF : ∃ fs, Fn [.list (ns.map .int)] = some (.bool true, fs)) :
    codeAny (model P w) callerA (.call (.ref fa) ⟨[.ref a], []⟩) (fun r s' => r = .ok (.ret (.bool true)) ∧ OldK s₁.heap s'.heap ∧ s'.os = s₁.os ∧ AllBare s'.gens) s₁ := by
  obtain ⟨fs, hF⟩ := hF
  have rv := vals_ints hi
  have aP : a ≠ Pt := fun z => by
    rw [z, hT] at ha
    cases ha
  generalize hU : HO.frz { cls := .type "list", data := .seq vs.toArray } (.lst (ns.map V.int)) = U
  have okA : ∀ H, ObjOk P w H s₁.heap a U := fun H => by
    rw [← hU]
    exact ⟨ha, by rw [List.length_map]; exact hl, vs, _, rv, ha⟩
  have HP : hScrT K a U Pt Pt = some (.tbl #[]) := if_pos rfl
  have Hn : ∀ {b : Addr}, b ≠ Pt → hScrT K a U Pt b = hScr K a U b := fun h => if_neg h
  have up : ∀ {b : Addr} {o : Obj}, s₁.heap.get? b = some o → b ≠ Pt → (b ≠ a ∨ K.lookup a ≠ none) → (hidT s₁.heap (hScrT K a U Pt)).get? b = some o := fun e n1 n2 => hidT_get e (by rw [Hn n1]; exact hScr_none n2)
  have ns' : ∀ {b : Addr} {m : Str → Option Value}, s₁.heap.Ns b m → (hidT s₁.heap (hScrT K a U Pt)).Ns b m := by
    rintro b m ⟨o, es, ep, e, d, r⟩
    refine ⟨o, es, ep, up e (fun z => ?_) (.inl fun z => ?_), d, r⟩
    · rw [z, hT] at e
      cases e
      cases d
    · rw [z, ha] at e
      cases e
      cases d
  have kin : K.In (hidT s₁.heap (hScrT K a U Pt)) := fun b o e => up (KX b o e) (fun z => by rw [z, nT] at e; cases e) (by
    by_cases z : b = a
    · subst z; exact .inr (by rw [e]; exact fun q => by cases q)
    · exact .inl z)
  obtain ⟨mc, hl1, hl2⟩ := hlim
  obtain ⟨bm, ob, b1, b2, b3, b4, b5, b6⟩ := hbm
  have gP : mainGlobals ≠ Pt := fun z => by
    obtain ⟨o, es, ep, e, d, _⟩ := hns
    rw [z, hT] at e
    cases e
    cases d
  have TB : LamX.TabB (hidT s₁.heap (hScrT K a U Pt)) mg c Pt := by
    refine NdefX.tabB_of_K kin hC ⟨bm, ob, b1, b2, fun z => ?_, fun z => ?_, up b3 (fun z => ?_) (.inl fun z => ?_), b4, b5, b6⟩ gP
    · obtain ⟨o, es, ep, e, d, _⟩ := hns
      rw [← z, b3] at e
      cases e
      rw [b6] at d
      cases d
    · rw [z, hT] at b3
      cases b3
      cases b6
    · rw [z, hT] at b3
      cases b3
      cases b6
    · rw [z, ha] at b3
      cases b3
      cases b6
  have e0 : Env0 P w K mg (hidT s₁.heap (hScrT K a U Pt)) callerA [] s₁ (hScrT K a U Pt) := by
    refine ⟨rfl, ⟨kin, ns' hns, ⟨mb, ns' hb, hbb⟩, mc, ns' hl1, hl2⟩, fun b o e => of_hidT e, Nat.le_of_eq (hidT_size _ _), trivial, fun b hb => ?_, fun b z hz => ?_, .of_eq hg⟩
    · cases hb
    · by_cases q : b = Pt
      · subst q
        rw [HP] at hz
        cases hz
        exact hT
      · rw [Hn q] at hz
        obtain ⟨rfl, _, rfl⟩ := hScr_some hz
        exact okA _
  have hS : SqL K (hScr K a U) a (ns.map V.int) := by
    cases hk : K.lookup a with
    | none => exact .inl (.inr ⟨{ cls := .type "list", data := .seq vs.toArray }, by rw [hU]; exact if_pos ⟨rfl, hk⟩⟩)
    | some o =>
      have e := KX a o hk
      rw [ha] at e
      cases e
      exact .inr ⟨_, vs.toArray, _, hk, rfl, rfl, rfl, by rw [List.size_toArray, hi.length]; exact hl, by simpa using rv⟩
  have sg : Same (hScr K a U) (hScrT K a U Pt) := fun b o e => by
    obtain ⟨rfl, _, _⟩ := hScr_some e
    rw [Hn aP]
    exact e
  refine codeAny_mono ((F _ kin (ns' hns) TB).run callerA [] s₁ _ ⟨[.ref a], []⟩ [.ref a] [.ref a] (fun v _ => v = .bl true) E0 hr rfl e0 (hbind s₁ (.ref a)) (.cons rfl .nil)
    ⟨rfl, HP, _, _, fs, hScr K a U, hF, OwnA.cons (A := []) (.q hS hl) .nil, sg, hScr_none (.inl aP.symm), fun G' H' v o => by cases o; rfl⟩) fun r s' h => ?_
  cases r with
  | error e => exact False.elim h
  | ok fl =>
    cases fl with
    | ret u =>
      obtain ⟨v, H', os, bare, un, hok', r', q⟩ := h
      cases q
      obtain rfl : u = Value.bool true := r'
      have old : ∀ b o, b ≠ Pt → s₁.heap.get? b = some o → s'.heap.get? b = some o := fun b o n e => by
        cases hq : hScrT K a U Pt b with
        | none => exact un.keep b o e hq (fun z => by cases z) (by simp)
        | some z =>
          rw [Hn n] at hq
          obtain ⟨rfl, _, rfl⟩ := hScr_some hq
          rw [ha] at e
          rw [← e]
          rw [← hU] at hq
          exact (hok' b _ (un.frzs b _ _ (by rw [Hn n, ← hU]; exact hq))).1
      obtain ⟨more, hm⟩ := un.tbls Pt #[] HP
      have at1 : s'.heap.get? Pt = some { cls := .none, data := .fields (#[] ++ more) } := hok' Pt _ hm
      refine ⟨rfl, ⟨fun b o e => ?_, fun b o e => ?_⟩, os, bare⟩
      · by_cases hb : b = Pt
        · subst hb
          rw [hT] at e
          cases e
          exact .inr (.inl ⟨((PySem.W.codeHd_of_K KX hC).tab hT).isCodeTable, rfl, #[], more, rfl, at1⟩)
        · exact .inl (old b o hb e)
      · by_cases hb : b = Pt
        · subst hb
          exact ⟨_, at1⟩
        · exact ⟨o, old b o hb e⟩
    | next => exact False.elim h
    | brk => exact False.elim h
    | cont => exact False.elim h
theorem walk_ofXT {l : PySem.W.OpenLaw} {n k : Nat} {q : Program} {loose : List Str} {XP : (Str → Option Value) → Heap → Prop} {YP : World → Heap → Prop} {d : DefRec} {x : Str}
    (hn : l.most = some n) (hn2 : n ≤ sizeLine) (hdf : d.params.defaults = []) (hr : Room k callerA)
    (F : ∀ (w : World) (mg : Str → Option Value) (fa : Addr) (h : Heap), YP w h → h.Ns mainGlobals mg → mg d.name = some (.ref fa) →
      ∃ (K : PySem.W.Frag) (fd : FuncData) (c Pt : Addr), K.In h ∧ h.get? Pt = some { cls := .none, data := .fields #[] } ∧ K.lookup Pt = none ∧ PySem.W.codeHdIn K c Pt = true ∧ (∀ (s : Shared) (u : Value), BindsTo s fd ⟨[u], []⟩ [(x, u)]) ∧
        ∀ base : Heap, K.In base → base.Ns mainGlobals mg → LamX.TabB base mg c Pt → FnG l.prog w K mg base k fa fd [x] (spT K Pt Fn))
    (hF : ∀ ns : List Int, ns.length ≤ n → ∃ fs, Fn [.list (ns.map .int)] = some (.bool true, fs)) :
    PySem.W.WalkO q loose XP YP l.row.toRowW d [] (fun f vs => PySem.call f vs) :=
  Att.attach_call hn hdf fun w s₀ s₁ mg mb fa o pm cd doc a vs ns G Y ho hd hcd hmg hobj hints hlen hg => by
    obtain ⟨K, fd, c, Pt, KX, hT, nT, hC, hb, hFn⟩ := F w mg fa _ Y G.T.g hmg
    exact law_callT KX G.T.g G.T.b G.T.builtins G.T.nolimit hg hT nT hC G.T.bmain hobj hints (Nat.le_trans hlen hn2) hr hFn hb (hF ns hlen)
end
end DL
namespace DL
open PySem L2 PySem.Spec PyProof.Rows
section
variable {r : PySem.W.OpenRow} {M m : Nat} {w : World}
def tabY (m : Nat) (tf : List He.Defn) (s : PySem.W.SharedT) : Bool := He.tabsB (HandSHeadRun.getT s) tf (fragY m (HandSHeadRun.getT s))
theorem Sees.allT {fn : List He.DefD} {tf : List He.Defn} {ex : PySem.W.Frag → Bool} (h1 : Sees r M w (defY m fn) (He.valD fn)) (h2 : Sees r M w (boolY m ex) true) (h3 : Sees r M w (tabY m tf) true) : Sees r M w (fun s => obsY m fn [] tf ex (HandSHeadRun.getT s)) (He.valX fn [] w) :=
  ((h1.and h2).and h3).to fun s e => by
    obtain ⟨e1, e4⟩ := Prod.mk.inj e
    obtain ⟨e2, e3⟩ := Prod.mk.inj e1
    refine Prod.ext (Prod.ext e2 rfl) ?_
    show (boolY m ex s && tabY m tf s) = true
    rw [e3, e4]; rfl
end
theorem code_at {K : PySem.W.Frag} {x y q : Str} {st : Stmt} {fd : FuncData} (F : L2.Fun K y q st (He.ga K x) fd) : fd.code = .ref (He.codeOf K (x, none)) := by
  obtain ⟨oc, od, kV, doc, pm, an, cdv, ct, osl, rfl, lk, hcd⟩ := F.ex
  obtain ⟨c, rfl⟩ := He.codeIn_ref hcd
  have e : He.codeOf K (x, none) = c := He.codeOf_eq (p := (x, none)) lk rfl
  rw [e]
end DL
namespace DL
open PySem L2 PySem.Spec PyProof.Rows
section
variable {X : Cx}
def backS (z : Str) : Str := ⟨z.cps.toList.reverse.toArray⟩
def tBackS (te : TE) : TE := fun σ H Q => te σ H fun x H1 => ∃ z, x = .str z ∧ z.length ≤ sizeLine ∧ Q (.str (backS z)) H1
theorem backS_pick (z : Str) (t u : Tok) : sliceMade z t none none (some (-1, u)) = .str (backS z) := by
  unfold sliceMade
  rw [if_neg (by simp)]
  congr 1
  unfold backS
  congr 1
  unfold slicePicked
  show (List.filterMap _ (Builtin.Str.strSliceIndices none none (-1) z.length)).toArray = _
  have e : Builtin.Str.strSliceIndices none none (-1) z.length = sliceRange ((z.cps.size : Int) - 1) (-1) (-1) := by
    unfold Builtin.Str.strSliceIndices
    simp only [show ¬ ((-1 : Int) > 0) by decide, if_false]
    rfl
  rw [e, PySem.W.krv_sliceRange, PySem.W.krv_range, List.filterMap_reverse]
  congr 2
  have h : ∀ l : List Nat, (List.range l.length).filterMap (l[·]?) = l := fun l => by
    induction l with
    | nil => rfl
    | cons c l ih =>
      rw [List.length_cons, List.range_succ_eq_map, List.filterMap_cons]
      simp only [List.getElem?_cons_zero, List.filterMap_map]
      congr 1
  have h2 := h z.cps.toList
  rw [Array.length_toList] at h2
  rw [← h2]
  congr 1
  funext i
  simp
theorem pe_backS {e : Expr} {te : TE} {k : Nat} {p1 p2 p3 pos : Pos} (he : PE X e te) : PE X (.Subscript e (.Slice none none (some (.UnaryOp .USub (.Constant (.int 1) k p1) p2)) p3) pos) (tBackS te) := by
  refine ⟨fun pins s σ H Q I h => Subscript_ (thn (he.run pins s σ H _ I h) fun v s1 ⟨x, H1, I1, r1, z, ex, hz, q1⟩ => ?_)⟩
  subst ex
  obtain ⟨tk, rfl⟩ := r1
  have neg : PO X (some (.UnaryOp .USub (.Constant (.int 1) k p1) p2)) (tPart (tUn (rU fun i => .int (-i)) (tC (.int 1)))) := po_some (pe_un un_neg pe_int)
  refine wpAny_Slice (thn (po_none.run pins s1 σ H1 (fun o H2 => o = none ∧ H2 = H1) I1 ⟨rfl, rfl⟩) fun vl s2 ⟨_, _, I2, pl, el, e2⟩ => ?_)
  subst el; subst e2
  refine thn (po_none.run pins s2 σ _ (fun o H3 => o = none ∧ H3 = _) I2 ⟨rfl, rfl⟩) fun vu s3 ⟨_, _, I3, pu, eu, e3⟩ => ?_
  subst eu; subst e3
  refine thn (neg.run pins s3 σ _ (fun o H4 => o = some (-1) ∧ H4 = _) I3 ⟨1, rfl, -1, rfl, rfl, rfl⟩) fun vs s4 ⟨_, _, I4, ps, eo, e4⟩ => ?_
  subst eo; subst e4
  cases pl; cases pu
  cases ps with
  | int _ t =>
    have I5 := I4.kept (t' := s4.toks + 1) (h' := s4.heap.push { cls := .type "slice", data := .fields #[.none, .none, .int (-1) t] }) fun b ob q => Heap.get?_push_of_some _ q
    refine tail_any (ops := [.str z tk, .ref s4.heap.objs.size]) (typeIs_str _ z tk) F.slot_str_getitem.lookup ?_ (by with_unfolding_all rfl)
    refine wpAny_getItem_str_slice (l := none) (u := none) (st := some (-1, t)) ⟨_, Heap.get?_push_size _ rfl, rfl, rfl⟩ rfl ?_
    rw [backS_pick]
    refine ⟨?_, ⟨.str (backS z), _, I5, ⟨_, rfl⟩, q1⟩⟩
    show (backS z).cps.size ≤ _
    have : (backS z).cps.size = z.cps.size := by simp [backS]
    rw [this]
    exact hz
end
def gBackS : PyData → Option PyData
  | .str z => some (.str (backS z))
  | _ => none
def gRep (y z : Str) : PyData → Option PyData
  | .str x => if x.length + (x.length + 1) * z.length ≤ 16777216 ∧ (Txt.replace x y z).length ≤ sizeLine then some (.str (Txt.replace x y z)) else none
  | _ => none
section
variable {ι : Type} {Xf : ι → Cx} {P : Program} {w : World} {K : PySem.W.Frag} {mg : Str → Option Value} {base : Heap} {n : Nat} [F : Fam Xf P w K mg base n]
variable {m m1 m2 : List Ty} {pos p apos : Pos} {a b : Expr} {rest : List Expr} {f g : Ef}
include F in
theorem pd_backS {k : Nat} {p1 p2 p3 : Pos} (ha : PD Xf K m a .s f m1) : PD Xf K m (.Subscript a (.Slice none none (some (.UnaryOp .USub (.Constant (.int 1) k p1) p2)) p3) pos) .s (e1 gBackS f) m1 := by
  obtain ⟨ta, pa, da⟩ := ha.ex
  refine ⟨_, fun i => pe_backS (pa i), fun {G H σ e A d e' Q} st hf kk => ?_⟩
  unfold e1 at hf
  obtain ⟨⟨d1, e1⟩, hf1, hf⟩ := oBs hf
  obtain ⟨d2, hf2, hf⟩ := oBs hf
  cases hf
  refine da st hf1 fun G1 H1 v1 A1 B1 s1 st1 o1 nd1 => ?_
  cases o1 with
  | s q1 =>
    cases d1 with
    | str x =>
      obtain ⟨rfl, z1⟩ := dq_str q1
      cases hf2
      refine ⟨x, rfl, z1, ans_s st1 (.str _ ?_) fun G3 H3 v3 A3 B3 s3 st3 o3 nd3 => kk G3 H3 v3 A3 B3 (s1.seq0 s3) st3 o3 nd3⟩
      show (backS x).cps.size ≤ _
      have : (backS x).cps.size = x.cps.size := by simp [backS]
      rw [this]
      exact z1
    | _ => cases hf2
end
structure PALT {ι : Type} (Xf : ι → Cx) (K : PySem.W.Frag) (m : List Ty) (es : List Expr) (tys : List Ty) (L : List (Option Nat)) (f : Lf) (m' : List Ty) : Prop where
  ex : ∃ ta : TA, (∀ i, PAT (Xf i) es ta) ∧ DAL K m ta tys L f m'
section
variable {X : Cx} {a b o : Expr} {es : List Expr} {ta tb to : TE} {tr : TA} {y z : Str} {j k : Nat} {c0 c1 apos pos p : Pos}
theorem pat_of (h : PA X es tr) : PAT X es tr := fun pos pins s σ H Q _ I q => h.run pos pins s σ H Q I q
theorem pa_tok {op : Operator} {r : R2} (ho : OpR X (binaryOp op) r) (ha : PE X a ta) (hr : PAT X es tr)
    (hs : starEach (.BinOp a op (.Constant (.str y) j c0) pos :: es) X.env = (false, eval (.BinOp a op (.Constant (.str y) j c0) pos) X.env) :: starEach es X.env := by rfl) :
    PA X (.BinOp a op (.Constant (.str y) j c0) pos :: es) (tCons (tOp r ta (tC (.str y))) tr) := by
  refine ⟨fun ps pins s σ H Q I h => ?_⟩
  rw [hs]
  show wpAny _ _ (spliced ((false, eval (.BinOp a op (.Constant (.str y) j c0) pos) X.env) :: backTo ps (starEach es X.env))) _ _ s
  refine Calls.spliced_cons (wpAny_BinOp (thn (ha.run pins s σ H _ I h) fun v s1 ⟨x, H1, I1, r1, q1⟩ => ?_))
  refine Calls.Constant_str ?_
  refine wpAny_mono (PySem.wpAny_toks (ho pins { s1 with toks := s1.toks + 1 } σ H1 x (.str y) v (.str y s1.toks) _ (I1.tok _) r1 ⟨_, rfl⟩ q1)) (fun u s2 q => ?_) fun _ _ z => z.2
  obtain ⟨hk, x2, H2, I2, r2, q2⟩ := q
  have hk : s1.toks + 1 ≤ s2.toks := hk
  exact thn (hr ps pins s2 σ H2 _ (by omega) I2 q2) fun us s3 ⟨xs, H3, I3, r3, q3⟩ => ⟨x2 :: xs, H3, I3, .cons r2 r3, q3⟩
end
section
variable {ι : Type} {Xf : ι → Cx} {P : Program} {w : World} {K : PySem.W.Frag} {mg : Str → Option Value} {base : Heap} {n : Nat} [F : Fam Xf P w K mg base n]
variable {m m1 m2 : List Ty} {apos pos c0 c1 : Pos} {a o : Expr} {es : List Expr} {f : Ef} {fr : Lf} {tys : List Ty} {L : List (Option Nat)} {ty : Ty} {y z : Str} {j k : Nat}
theorem plt_of (h : PAL Xf K m es tys L fr m1) : PALT Xf K m es tys L fr m1 := by
  obtain ⟨tr, pr, dr⟩ := h.ex
  exact ⟨tr, fun i => pat_of (pr i), dr⟩
theorem plt_cons (ha : PD Xf K m a ty f m1) (hr : PALT Xf K m1 es tys L fr m2) (hs : ∀ i, starEach (a :: es) (Xf i).env = (false, eval a (Xf i).env) :: starEach es (Xf i).env := by intro _; rfl) : PALT Xf K m (a :: es) (ty :: tys) (none :: L) (lCons f fr) m2 := by
  obtain ⟨ta, pa, da⟩ := ha.ex
  obtain ⟨tr, pr, dr⟩ := hr.ex
  exact ⟨_, fun i => pat_cons (CwR.PET.of (pa i)) (pr i) (hs i), DAL.cons da dr⟩
theorem pl_tok {op : Operator} {gg : PyData → PyData → Option PyData} (o2 : Op2 Xf K (binaryOp op) ty gg) (ha : PD Xf K m a .s f m1) (hr : PALT Xf K m1 es tys L fr m2) (hz : y.length ≤ sizeLine := by decide)
    (hs : ∀ i, starEach (.BinOp a op (.Constant (.str y) j c0) pos :: es) (Xf i).env = (false, eval (.BinOp a op (.Constant (.str y) j c0) pos) (Xf i).env) :: starEach es (Xf i).env := by intro _; rfl) :
    PAL Xf K m (.BinOp a op (.Constant (.str y) j c0) pos :: es) (ty :: tys) (none :: L) (lCons (e2 gg f (eC (.str y))) fr) m2 := by
  obtain ⟨ta, pa, da⟩ := ha.ex
  obtain ⟨r, po, d2⟩ := o2.ex
  obtain ⟨tr, pr, dr⟩ := hr.ex
  refine ⟨_, fun i => pa_tok (po i) (pa i) (pr i) (hs i), DAL.cons (fun {G H σ e A d e' Q} st hf k => ?_) dr⟩
  unfold e2 eC at hf
  obtain ⟨⟨d1, e1⟩, hf1, hf⟩ := oBs hf
  obtain ⟨⟨d2', e2⟩, hf2, hf⟩ := oBs hf
  obtain ⟨d3, hf3, hf⟩ := oBs hf
  cases hf
  cases hf2
  refine da st hf1 fun G1 H1 v1 A1 B1 s1 st1 o1 nd1 => ?_
  cases o1 with
  | s q1 => exact d2 st1 q1 (.str _ hz) hf3 fun G3 H3 v3 A3 B3 s3 st3 o3 nd3 => k G3 H3 v3 A3 B3 (s1.seq0 s3) st3 o3 nd3
include F in
theorem plt_rep (ho : PD Xf K m o .s f m1) (hr : PALT Xf K m1 es tys L fr m2) (hyz : (y == z) = false := by decide)
    (hst : ∀ i, starEach [.Constant (.str y) j c0, .Constant (.str z) k c1] (Xf i).env = [(false, eval (.Constant (.str y) j c0) (Xf i).env), (false, eval (.Constant (.str z) k c1) (Xf i).env)] := by intro _; rfl)
    (hbase : ∀ i, attributeBase o "replace" (Xf i).env (eval o (Xf i).env) = eval o (Xf i).env := by intro _; rfl) (hline : (apos.endLine == pos.line) = true := by rfl)
    (hs : ∀ i, starEach (.Call (.Attribute o "replace" apos) [.Constant (.str y) j c0, .Constant (.str z) k c1] [] pos :: es) (Xf i).env = (false, eval (.Call (.Attribute o "replace" apos) [.Constant (.str y) j c0, .Constant (.str z) k c1] [] pos) (Xf i).env) :: starEach es (Xf i).env := by intro _; rfl) :
    PALT Xf K m (.Call (.Attribute o "replace" apos) [.Constant (.str y) j c0, .Constant (.str z) k c1] [] pos :: es) (.s :: tys) (none :: L) (lCons (e1 (gRep y z) f) fr) m2 := by
  obtain ⟨ta, pa, da⟩ := ho.ex
  obtain ⟨tr, pr, dr⟩ := hr.ex
  refine ⟨_, fun i => pat_cons (CwR.pet_replC (pa i) hyz (hst i) (hbase i) hline) (pr i) (hs i), DAL.cons (fun {G H σ e A d e' Q} st hf k => ?_) dr⟩
  unfold e1 at hf
  obtain ⟨⟨d1, e1⟩, hf1, hf⟩ := oBs hf
  obtain ⟨d2, hf2, hf⟩ := oBs hf
  cases hf
  refine da st hf1 fun G1 H1 v1 A1 B1 s1 st1 o1 nd1 => ?_
  cases o1 with
  | s q1 =>
    cases d1 with
    | str x =>
      obtain ⟨rfl, z1⟩ := dq_str q1
      unfold gRep at hf2
      obtain ⟨hz, rfl⟩ := ite_some hf2
      exact ⟨x, rfl, hz.1, ans_s st1 (.str _ hz.2) fun G3 H3 v3 A3 B3 s3 st3 o3 nd3 => k G3 H3 v3 A3 B3 (s1.seq0 s3) st3 o3 nd3⟩
    | _ => cases hf2
end
end DL
namespace DL
open PySem L2 PySem.Spec
@[simp] theorem rUnal {i j0 j1 : Nat} {e : En} : sUnal i j0 j1 e = (gHd2 (e.getD i .none)).bind fun q => some (.nx, (e.set j0 q.1).set j1 q.2) := rfl
@[simp] theorem rAl {j : Nat} {r : Lf} {e : En} : lAl j r e = (r e).bind fun p => some (p.2.getD j .none :: p.1, p.2) := rfl
end DL
namespace DL
open PySem L2 PySem.Spec
@[simp] theorem rDVals {j : Nat} {e : En} : eDVals j e = (gDVals (e.getD j .none)).bind fun d => some (d, e) := rfl
@[simp] theorem reThaw {f : Ef} {e : En} : eThaw f e = (f e).bind fun p => (grd (flat1 p.1)).bind fun _ => some p := rfl
@[simp] theorem rbTrue {e : En} : bTrue e = some (true, e) := rfl
section
variable {tb : CT} {j : Nat} {f : Ef} {fb fs : Sf} {e : En} {v : PyData}
@[simp] theorem rsAsgE : sAsgE tb j f e = (f e).bind fun p => (gIsOk tb p.1).bind fun w => (asB w).bind fun b => if b = true then (gUn p.1).bind fun d => some (.nx, p.2.set j d) else some (.rt p.1, p.2) := rfl
@[simp] theorem rsDropE : sDropE tb f e = (f e).bind fun p => (gIsOk tb p.1).bind fun w => (asB w).bind fun b => if b = true then some (.nx, p.2) else some (.rt p.1, p.2) := rfl
@[simp] theorem rsRetE : sRetE tb f e = (f e).bind fun p => (gIsOk tb p.1).bind fun _ => some (.rt p.1, p.2) := rfl
@[simp] theorem rsTryB : sTryB tb j fb fs e = (fb e).bind fun p => tryR tb j fs p := rfl
@[simp] theorem rsTryC : sTryC tb fb fs e = (fb e).bind fun p => tryR0 tb fs p := rfl
@[simp] theorem rTry1 : tryR tb j fs (.rt v, e) = (gIsOk tb v).bind fun w => (asB w).bind fun b => if b = true then (gUn v).bind fun d => some (.rt d, e) else fs (e.set j v) := rfl
@[simp] theorem rTry2 : tryR tb j fs (.nx, e) = some (.nx, e) := rfl
@[simp] theorem rTry3 : tryR tb j fs (.bk, e) = some (.bk, e) := rfl
@[simp] theorem rTry4 : tryR tb j fs (.ct, e) = some (.ct, e) := rfl
@[simp] theorem rTry5 : tryR0 tb fs (.rt v, e) = (gIsOk tb v).bind fun w => (asB w).bind fun b => if b = true then (gUn v).bind fun d => some (.rt d, e) else fs e := rfl
@[simp] theorem rTry6 : tryR0 tb fs (.nx, e) = some (.nx, e) := rfl
@[simp] theorem rTry7 : tryR0 tb fs (.bk, e) = some (.bk, e) := rfl
@[simp] theorem rTry8 : tryR0 tb fs (.ct, e) = some (.ct, e) := rfl
end
end DL
namespace DL
open PySem L2 PySem.Spec
section
variable {g gi gv : Gq} {pt : Pf} {e : En}
@[simp] theorem rsAugS : sAugS g pt gi gv e = (g e).bind fun d => (gi e).bind fun i => (gv e).bind fun v => (gAugS d i v).bind fun l => some (.nx, pt e l) := rfl
end
@[simp] theorem rExtV {j l : Nat} {e : En} : eExtV j l e = (gExt (e.getD j .none) (e.getD l .none)).bind fun d => some (.none, e.set j d) := rfl
@[simp] theorem rUpdT {j : Nat} {f : Ef} {e : En} : eUpdT j f e = (f e).bind fun p => (gUpdT (p.2.getD j .none) p.1).bind fun d => some (.none, p.2.set j d) := rfl
end DL
namespace DL
open PySem L2 PySem.Spec
section
variable {j : Nat} {f g : Ef} {e : En} {ng : Bool}
@[simp] theorem rTGet : eTGet j f e = (f e).bind fun p => (gTGet (p.2.getD j .none) p.1).bind fun d => some (d, p.2) := rfl
@[simp] theorem rTOne : eTOne f g e = (f e).bind fun p => (g p.2).bind fun q => (gTOne p.1 q.1).bind fun d => some (d, q.2) := rfl
@[simp] theorem rTInE : eTInE ng f g e = (f e).bind fun p => (g p.2).bind fun q => (gTIn ng q.1 p.1).bind fun d => some (d, q.2) := rfl
@[simp] theorem rsTPutD : sTPutD j f g e = (g e).bind fun p => (f p.2).bind fun q => (gTPut (q.2.getD j .none) q.1 p.1).bind fun d => some (.nx, q.2.set j d) := rfl
end
end DL
namespace DL
open PySem L2 PySem.Spec
def gNewF : PyData → PyData → Option PyData
  | .list ds, x => some (.list (ds ++ [x]))
  | _, _ => none
def gInit : PyData × List PyData → Option PyData
  | (.none, f0 :: _) => some f0
  | _ => none
section
variable {j : Nat} {f g : Ef} {e : En} {fr : Lf} {Fn : DFn}
@[simp] theorem rsNewF : sNewF j f e = (f e).bind fun p => (gNewF (p.2.getD j .none) p.1).bind fun d => some (.nx, p.2.set j d) := by
  show (f e).bind _ = _
  congr 1
  funext p
  cases h : p.2.getD j .none <;> simp only [gNewF] <;> rfl
@[simp] theorem rMake : eMake Fn fr e = (fr e).bind fun p => (Fn (.list [] :: p.1)).bind fun q => (gInit q).bind fun d => some (d, p.2) := by
  show (fr e).bind _ = _
  congr 1
  funext p
  congr 1
  funext q
  obtain ⟨d, fs⟩ := q
  cases d <;> cases fs <;> rfl
end
end DL
namespace DL
open PySem L2 PySem.Spec
@[simp] theorem stb_o {C : Addr} {ns : List Str} {ts : List Ty} : stb (.o C ns ts) = false := rfl
@[simp] theorem stb_f {C : Addr} {ns : List Str} : stb (.f C ns) = true := rfl
@[simp] theorem gInit_mk {d : PyData} {ds : List PyData} : gInit (.none, d :: ds) = some d := rfl
section
variable {j k : Nat} {f : Ef} {e : En} {Fn : DFn} {rty : Ty} {ds : List PyData}
@[simp] theorem rBor : borF rty Fn ds = (Fn ds).bind fun p => (grd (flatR rty p.1)).bind fun _ => some (p.1, ds) := rfl
@[simp] theorem rAppF : eAppF j k f e = (f e).bind fun p => (gAppF k (e.getD j .none) p.1).bind fun d => some (.none, p.2.set j d) := rfl
end
end DL
namespace DL
open PySem L2 PySem.Spec
theorem le_line {n : Nat} (h : n ≤ 1000000) : n ≤ sizeLine := Nat.le_trans h (by decide)
theorem lt_line {n : Nat} (h : n ≤ 1000000) : n < sizeLine := Nat.lt_of_le_of_lt h (by decide)
section
variable {i j : Int} {b c : Bool} {x y z d : PyData} {xs ys zs : List PyData} {s t : Str} {α β γ σ : Type}
@[simp] theorem asB_bool : asB (.bool b) = some b := rfl
@[simp] theorem ifB_bool {p q : Option α} : ifB (.bool b) p q = if b = true then p else q := by cases b <;> rfl
@[simp] theorem un2_ok : un2 (.tuple [x, y]) = some (x, y) := rfl
@[simp] theorem un3_ok : un3 (.tuple [x, y, z]) = some (x, y, z) := rfl
@[simp] theorem un4_ok : un4 (.tuple [x, y, z, d]) = some (x, y, z, d) := rfl
@[simp] theorem grd_true : grd true = some () := rfl
@[simp] theorem xAdd : gAdd (.int i) (.int j) = some (.int (i + j)) := rfl
@[simp] theorem xAddB : gAdd (.bool b) (.int j) = some (.int (bI b + j)) := rfl
@[simp] theorem xSub : DL.gSub (.int i) (.int j) = some (.int (i - j)) := rfl
@[simp] theorem xSubB : DL.gSub (.bool b) (.int j) = some (.int (bI b - j)) := rfl
@[simp] theorem xNeg : gNeg (.int i) = some (.int (-i)) := rfl
@[simp] theorem xAddI : gAddI (.int i) (.int j) = some (.int (i + j)) := rfl
theorem xMul (h : i.natAbs < 2 ^ 64 ∨ j.natAbs < 2 ^ 64) : gMul (.int i) (.int j) = some (.int (i * j)) := by
  show (if mulOk i j = true then _ else _) = _
  rw [if_pos]
  unfold mulOk
  rcases h with h | h
  · rw [decide_eq_true h]; rfl
  · rw [decide_eq_true h, Bool.or_true]
theorem xFdivW {k : Nat} (h : 0 < j) (h2 : j.natAbs < 2 ^ k) (hk : k ≤ 9000) : gFdiv (.int i) (.int j) = some (.int (i / j)) :=
  if_pos ⟨h, Nat.lt_of_lt_of_le ((Nat.log2_lt (show j.natAbs ≠ 0 by omega)).mpr h2) hk⟩
theorem xFdiv (h : 0 < j) (h2 : j < 1073741824) : gFdiv (.int i) (.int j) = some (.int (i / j)) := xFdivW (k := 30) h (by omega) (by decide)
theorem xMod (h : 0 < j) : gMod (.int i) (.int j) = some (.int (i % j)) := if_pos h
@[simp] theorem xLt : gLt (.int i) (.int j) = some (.bool (decide (i < j))) := rfl
@[simp] theorem xGt : gGt (.int i) (.int j) = some (.bool (decide (j < i))) := rfl
@[simp] theorem xLe : gLe (.int i) (.int j) = some (.bool (decide (i ≤ j))) := rfl
@[simp] theorem xGe : gGe (.int i) (.int j) = some (.bool (decide (j ≤ i))) := rfl
theorem eqv_int : PyData.eqv (.int i) (.int j) = decide (i = j) := by
  unfold PyData.eqv
  by_cases h : i = j <;> simp [h]
theorem eqv_str : PyData.eqv (.str s) (.str t) = (s == t) := by unfold PyData.eqv; rfl
theorem eqv_bool : PyData.eqv (.bool b) (.bool c) = (b == c) := by unfold PyData.eqv; cases b <;> cases c <;> rfl
theorem eqv_tuple : PyData.eqv (.tuple xs) (.tuple ys) = PyData.eqvAll xs ys := by rw [PyData.eqv]
theorem eqv_list : PyData.eqv (.list xs) (.list ys) = PyData.eqvAll xs ys := by rw [PyData.eqv]
theorem eqv_nil : PyData.eqvAll xs [] = xs.isEmpty := by cases xs <;> simp [PyData.eqvAll]
theorem eqv_cons : PyData.eqvAll (x :: xs) (y :: ys) = (PyData.eqv x y && PyData.eqvAll xs ys) := by rw [PyData.eqvAll]
theorem gEq_ok (h : x.depth ≤ 60 ∨ y.depth ≤ 60) (hx : x.plain = true) (hy : y.plain = true) : gEq x y = some (.bool (PyData.eqv x y)) := by
  unfold gEq dep pln
  rw [hx, hy, if_pos]
  rw [decide_eq_true]
  · rfl
  · rcases h with h | h
    · exact Nat.le_trans (Nat.min_le_left _ _) h
    · exact Nat.le_trans (Nat.min_le_right _ _) h
theorem gNe_ok (h : x.depth ≤ 60 ∨ y.depth ≤ 60) (hx : x.plain = true) (hy : y.plain = true) : gNe x y = some (.bool (!PyData.eqv x y)) := by
  unfold gNe dep pln
  rw [hx, hy, if_pos]
  rw [decide_eq_true]
  · rfl
  · rcases h with h | h
    · exact Nat.le_trans (Nat.min_le_left _ _) h
    · exact Nat.le_trans (Nat.min_le_right _ _) h
@[simp] theorem xEq : gEq (.int i) (.int j) = some (.bool (decide (i = j))) := by rw [gEq_ok (x := .int i) (y := .int j) (.inl (Nat.zero_le 60)) rfl rfl, eqv_int]
@[simp] theorem xNe : gNe (.int i) (.int j) = some (.bool (!decide (i = j))) := by rw [gNe_ok (x := .int i) (y := .int j) (.inl (Nat.zero_le 60)) rfl rfl, eqv_int]
@[simp] theorem xEqS : gEq (.str s) (.str t) = some (.bool (s == t)) := by rw [gEq_ok (x := .str s) (y := .str t) (.inl (Nat.zero_le 60)) rfl rfl, eqv_str]
@[simp] theorem xNeS : gNe (.str s) (.str t) = some (.bool (!(s == t))) := by rw [gNe_ok (x := .str s) (y := .str t) (.inl (Nat.zero_le 60)) rfl rfl, eqv_str]
@[simp] theorem xEqB : gEq (.bool b) (.bool c) = some (.bool (b == c)) := by rw [gEq_ok (x := .bool b) (y := .bool c) (.inl (Nat.zero_le 60)) rfl rfl, eqv_bool]
@[simp] theorem xNeB : gNe (.bool b) (.bool c) = some (.bool (!(b == c))) := by rw [gNe_ok (x := .bool b) (y := .bool c) (.inl (Nat.zero_le 60)) rfl rfl, eqv_bool]
theorem plain_nil : PyData.plainAll [] = true := by unfold PyData.plainAll; rfl
theorem plain_cons : PyData.plainAll (x :: xs) = (x.plain && PyData.plainAll xs) := by rw [PyData.plainAll]
theorem plain_tuple : (PyData.tuple xs).plain = PyData.plainAll xs := by rw [PyData.plain]
theorem plain_list : (PyData.list xs).plain = PyData.plainAll xs := by rw [PyData.plain]
theorem plain_all (h : ∀ x ∈ xs, x.plain = true) : PyData.plainAll xs = true := by
  induction xs with
  | nil => exact plain_nil
  | cons x xs ih => rw [plain_cons, h x (List.mem_cons_self ..), ih fun y hy => h y (List.mem_cons_of_mem _ hy)]; rfl
theorem plain_map {f : α → PyData} (h : ∀ a, (f a).plain = true) {l : List α} : PyData.plainAll (l.map f) = true := plain_all fun x hx => by
  obtain ⟨a, _, rfl⟩ := List.mem_map.mp hx
  exact h a
theorem depth_all {n : Nat} (h : ∀ x ∈ xs, x.depth ≤ n) : PyData.depthAll xs ≤ n := by
  induction xs with
  | nil => unfold PyData.depthAll; omega
  | cons x xs ih =>
    unfold PyData.depthAll
    exact Nat.max_le.mpr ⟨h x (List.mem_cons_self ..), ih fun y hy => h y (List.mem_cons_of_mem _ hy)⟩
theorem depth_map {n : Nat} {f : α → PyData} (h : ∀ a, (f a).depth ≤ n) {l : List α} : PyData.depthAll (l.map f) ≤ n := depth_all fun x hx => by
  obtain ⟨a, _, rfl⟩ := List.mem_map.mp hx
  exact h a
theorem depth_list : (PyData.list xs).depth = PyData.depthAll xs + 1 := by rw [PyData.depth]
@[simp] theorem depth_int : (PyData.int i).depth = 0 := rfl
@[simp] theorem plain_int : (PyData.int i).plain = true := rfl
@[simp] theorem xEqNilL : gEq (.list xs) (.list []) = some (.bool xs.isEmpty) := by
  have h : (dep (.list xs) (.list []) && pln (.list xs) (.list [])) = true := by
    have : dep (.list xs) (.list []) = true := decide_eq_true (Nat.le_trans (Nat.min_le_right _ _) (by decide))
    rw [this]
    unfold pln
    exact Bool.or_true _
  unfold gEq
  rw [if_pos h, eqv_list, eqv_nil]
@[simp] theorem xNeNilL : gNe (.list xs) (.list []) = some (.bool (!xs.isEmpty)) := by
  have h : (dep (.list xs) (.list []) && pln (.list xs) (.list [])) = true := by
    have : dep (.list xs) (.list []) = true := decide_eq_true (Nat.le_trans (Nat.min_le_right _ _) (by decide))
    rw [this]
    unfold pln
    exact Bool.or_true _
  unfold gNe
  rw [if_pos h, eqv_list, eqv_nil]
@[simp] theorem xEqNilT : gEq (.tuple xs) (.tuple []) = some (.bool xs.isEmpty) := by
  have h : (dep (.tuple xs) (.tuple []) && pln (.tuple xs) (.tuple [])) = true := by
    have : dep (.tuple xs) (.tuple []) = true := decide_eq_true (Nat.le_trans (Nat.min_le_right _ _) (by decide))
    rw [this]
    unfold pln
    exact Bool.or_true _
  unfold gEq
  rw [if_pos h, eqv_tuple, eqv_nil]
@[simp] theorem xNeNilT : gNe (.tuple xs) (.tuple []) = some (.bool (!xs.isEmpty)) := by
  have h : (dep (.tuple xs) (.tuple []) && pln (.tuple xs) (.tuple [])) = true := by
    have : dep (.tuple xs) (.tuple []) = true := decide_eq_true (Nat.le_trans (Nat.min_le_right _ _) (by decide))
    rw [this]
    unfold pln
    exact Bool.or_true _
  unfold gNe
  rw [if_pos h, eqv_tuple, eqv_nil]
@[simp] theorem xLenL : gLen (.list xs) = some (.int xs.length) := rfl
@[simp] theorem xLenT : gLen (.tuple xs) = some (.int xs.length) := rfl
@[simp] theorem xLenLL : gLenL (.list xs) = some (.int xs.length) := rfl
@[simp] theorem xTupL : gTuple (.list xs) = some (.tuple xs) := rfl
@[simp] theorem xTupT : gTuple (.tuple xs) = some (.tuple xs) := rfl
@[simp] theorem xListL : gList (.list xs) = some (.list xs) := rfl
@[simp] theorem xListT : gList (.tuple xs) = some (.list xs) := rfl
@[simp] theorem xAbs : gAbs (.int i) = some (.int (if i < 0 then -i else i)) := rfl
@[simp] theorem xIxL : gIx (.list xs) (.int i) = atI xs i := rfl
@[simp] theorem xIxT : gIx (.tuple xs) (.int i) = atI xs i := rfl
@[simp] theorem xItem : itemD (.list xs) (.int i) = atI xs i := rfl
@[simp] theorem xSeqL : seqD (.list xs) = some xs := rfl
@[simp] theorem xSeqT : seqD (.tuple xs) = some xs := rfl
@[simp] theorem xEnL : gEn (.list xs) = some (enumD 0 xs) := rfl
@[simp] theorem xEnT : gEn (.tuple xs) = some (enumD 0 xs) := rfl
@[simp] theorem xZipL : zipS (.list xs) (.list ys) = some (zipD xs ys) := rfl
@[simp] theorem xZipT : zipS (.tuple xs) (.tuple ys) = some (zipD xs ys) := rfl
@[simp] theorem xIsa {p : PyData → Bool} : gIsa p d = some (.bool (p d)) := rfl
@[simp] theorem xTruB : gTruth (.bool b) = some b := rfl
@[simp] theorem xTruL : gTruth (.list xs) = some (!xs.isEmpty) := rfl
@[simp] theorem xTruT : gTruth (.tuple xs) = some (!xs.isEmpty) := rfl
def isN : PyData → Bool
  | .none => true
  | _ => false
@[simp] theorem isN0 : isN .none = true := rfl
@[simp] theorem isN1 : isN (.int i) = false := rfl
@[simp] theorem isN2 : isN (.bool b) = false := rfl
@[simp] theorem isN3 : isN (.str s) = false := rfl
@[simp] theorem isN4 : isN (.list xs) = false := rfl
@[simp] theorem isN5 : isN (.tuple xs) = false := rfl
@[simp] theorem xIsN : gIs d .none = some (.bool (isN d)) := by cases d <;> rfl
@[simp] theorem xIsNotN : gIsNot d .none = some (.bool (!isN d)) := by cases d <;> rfl
@[simp] theorem xIsB : gIs (.bool b) (.bool c) = some (.bool (b == c)) := rfl
@[simp] theorem xIsNotB : gIsNot (.bool b) (.bool c) = some (.bool (!(b == c))) := rfl
@[simp] theorem xIsNB : gIs .none (.bool c) = some (.bool false) := rfl
@[simp] theorem xBackT : gBack (.tuple xs) = some (.tuple xs.reverse) := rfl
@[simp] theorem xBackL : gBack (.list xs) = some (.list xs.reverse) := rfl
@[simp] theorem xPrt : prt (.int i) = some (some i) := rfl
theorem xAllL (h : PyData.plainAll xs = true) : gAll (.list xs) = some (.bool (xs.all PyData.truthy)) := if_pos h
theorem xAnyL (h : PyData.plainAll xs = true) : gAny (.list xs) = some (.bool (xs.any PyData.truthy)) := if_pos h
theorem xAllB {f : α → Bool} {l : List α} : gAll (.list (l.map fun a => .bool (f a))) = some (.bool (l.all f)) := by
  rw [xAllL (plain_map fun _ => rfl), List.all_map]; rfl
theorem xAnyB {f : α → Bool} {l : List α} : gAny (.list (l.map fun a => .bool (f a))) = some (.bool (l.any f)) := by
  rw [xAnyL (plain_map fun _ => rfl), List.any_map]; rfl
theorem xAddL (h : xs.length + ys.length ≤ 1000000) : gAdd (.list xs) (.list ys) = some (.list (xs ++ ys)) := if_pos (le_line h)
theorem xAddLL (h : xs.length + ys.length ≤ 1000000) : gAddL (.list xs) (.list ys) = some (.list (xs ++ ys)) := if_pos (le_line h)
theorem xApp (h : xs.length ≤ 1000000) : gApp (.list xs) x = some (.list (xs ++ [x])) := if_pos (lt_line h)
theorem xPow (h : 0 ≤ j) (h2 : j ≤ 1000000) (h3 : i.natAbs < 2 ^ 64) : gPow (.int i) (.int j) = some (.int (i ^ j.toNat)) := if_pos ⟨h, h2, h3⟩
@[simp] theorem scInt : scD (.int i) = true := rfl
@[simp] theorem scBool : scD (.bool b) = true := rfl
@[simp] theorem at0 {a : α} {l : List α} : atI (a :: l) 0 = some a := by
  have : atI (a :: l) ((0 : Nat) : Int) = some a := atI_nat rfl
  exact this
@[simp] theorem at1 {a b : α} {l : List α} : atI (a :: b :: l) 1 = some b := by
  have : atI (a :: b :: l) ((1 : Nat) : Int) = some b := atI_nat rfl
  exact this
@[simp] theorem at2 {a b c : α} {l : List α} : atI (a :: b :: c :: l) 2 = some c := by
  have : atI (a :: b :: c :: l) ((2 : Nat) : Int) = some c := atI_nat rfl
  exact this
theorem ixN_nat {n j : Nat} (h : j < n) : ixN n ((j : Nat) : Int) = some j := by
  unfold ixN
  simp [h]
@[simp] theorem ixn0 {n : Nat} : ixN (n + 1) 0 = some 0 := ixN_nat (j := 0) (by omega)
@[simp] theorem ixn1 {n : Nat} : ixN (n + 1 + 1) 1 = some 1 := ixN_nat (j := 1) (by omega)
@[simp] theorem ixn2 {n : Nat} : ixN (n + 1 + 1 + 1) 2 = some 2 := ixN_nat (j := 2) (by omega)
theorem at_nat {l : List α} {n : Nat} (h : n < l.length) : atI l ((n : Nat) : Int) = some l[n] := atI_nat (List.getElem?_eq_getElem h)
theorem at_of {l : List α} {i : Int} (h0 : 0 ≤ i) (h1 : i < l.length) : ∃ h, atI l i = some (l[i.toNat]'h) := by
  have h2 : i.toNat < l.length := by omega
  refine ⟨h2, ?_⟩
  have : atI l ((i.toNat : Nat) : Int) = some (l[i.toNat]'h2) := atI_nat (List.getElem?_eq_getElem h2)
  rwa [show ((i.toNat : Nat) : Int) = i by omega] at this
theorem at_mem {l : List α} {i : Int} (h0 : 0 ≤ i) (h1 : i < l.length) : ∃ a, a ∈ l ∧ atI l i = some a := by
  obtain ⟨h, e⟩ := at_of h0 h1
  exact ⟨_, List.getElem_mem h, e⟩
theorem at_map {f : α → β} {l : List α} {i : Int} (h0 : 0 ≤ i) (h1 : i < l.length) : ∃ a, l[i.toNat]? = some a ∧ a ∈ l ∧ atI (l.map f) i = some (f a) := by
  have h2 : i.toNat < l.length := by omega
  refine ⟨l[i.toNat], List.getElem?_eq_getElem h2, List.getElem_mem h2, ?_⟩
  have : atI (l.map f) ((i.toNat : Nat) : Int) = some (f l[i.toNat]) := atI_nat (by rw [List.getElem?_map, List.getElem?_eq_getElem h2]; rfl)
  rwa [show ((i.toNat : Nat) : Int) = i by omega] at this
def natD (i : Nat) : PyData := .int (i : Nat)
theorem rng1_ok {n : Int} (h : 0 ≤ n) (h2 : n ≤ 1000000) : rng1 (.int n) = some ((List.range n.toNat).map natD) := by
  show (if n.toNat ≤ sizeLine ∧ -(2 ^ 62) ≤ n ∧ n < 2 ^ 62 then some (rngD 0 n.toNat) else none) = _
  rw [if_pos ⟨le_line (by omega), by omega, by omega⟩]
  unfold rngD natD
  simp
theorem rng1_nat {n : Nat} (h2 : n ≤ 1000000) : rng1 (.int (n : Nat)) = some ((List.range n).map natD) := by
  rw [rng1_ok (by omega) (by omega)]; rfl
theorem cut_take {k : Nat} : cutD xs none (some (k : Nat)) = xs.take k := by
  unfold cutD
  rw [HT.sIx_nat]
  show (xs.drop 0).take (min k xs.length - 0) = _
  rw [List.drop_zero, Nat.sub_zero]
  by_cases h : k ≤ xs.length
  · rw [Nat.min_eq_left h]
  · rw [Nat.min_eq_right (by omega), List.take_length, List.take_of_length_le (by omega)]
theorem cut_drop {k : Nat} : cutD xs (some (k : Nat)) none = xs.drop k := by
  unfold cutD
  rw [HT.sIx_nat]
  show (xs.drop (min k xs.length)).take (xs.length - min k xs.length) = _
  by_cases h : k ≤ xs.length
  · rw [Nat.min_eq_left h, List.take_of_length_le (by rw [List.length_drop]; omega)]
  · rw [Nat.min_eq_right (by omega), List.drop_length, List.drop_eq_nil_iff.mpr (by omega), List.take_nil]
theorem mapS_map {f : β → Option γ} {g : α → β} : ∀ {l : List α}, mapS (l.map g) f = mapS l fun a => f (g a)
  | [] => rfl
  | a :: l => by show (f (g a)).bind _ = (f (g a)).bind _; rw [mapS_map]
theorem mapS_ok {f : α → Option β} {g : α → β} : ∀ {l : List α}, (∀ a ∈ l, f a = some (g a)) → mapS l f = some (l.map g)
  | [], _ => rfl
  | a :: l, h => by
    show (f a).bind _ = _
    rw [h a (List.mem_cons_self ..), mapS_ok (l := l) fun b hb => h b (List.mem_cons_of_mem _ hb)]; rfl
theorem mapS_of {f : β → Option γ} {m : α → β} {g : α → γ} {l : List α} (h : ∀ a ∈ l, f (m a) = some (g a)) : mapS (l.map m) f = some (l.map g) := by rw [mapS_map]; exact mapS_ok h
theorem filS_map {f : β → Option (Option γ)} {g : α → β} : ∀ {l : List α}, filS (l.map g) f = filS l fun a => f (g a)
  | [] => rfl
  | a :: l => by show (f (g a)).bind _ = (f (g a)).bind _; rw [filS_map]
theorem filS_ok {f : α → Option (Option β)} {p : α → Bool} {g : α → β} : ∀ {l : List α}, (∀ a ∈ l, f a = some (if p a = true then some (g a) else none)) → filS l f = some ((l.filter p).map g)
  | [], _ => rfl
  | a :: l, h => by
    show (f a).bind _ = _
    rw [h a (List.mem_cons_self ..), filS_ok (l := l) fun b hb => h b (List.mem_cons_of_mem _ hb)]
    by_cases hp : p a = true
    · rw [if_pos hp, List.filter_cons_of_pos hp]; rfl
    · rw [if_neg hp, List.filter_cons_of_neg hp]; rfl
theorem filS_of {f : β → Option (Option γ)} {m : α → β} {p : α → Bool} {g : α → γ} {l : List α} (h : ∀ a ∈ l, f (m a) = some (if p a = true then some (g a) else none)) : filS (l.map m) f = some ((l.filter p).map g) := by rw [filS_map]; exact filS_ok h
theorem foldS_map {f : β → σ → Option σ} {g : α → β} : ∀ {l : List α} {s : σ}, foldS (l.map g) f s = foldS l (fun a s => f (g a) s) s
  | [], s => rfl
  | a :: l, s => by show (f (g a) s).bind _ = (f (g a) s).bind _; congr 1; funext s'; exact foldS_map
theorem forS_map {f : β → σ → Option (Out × σ)} {g : α → β} : ∀ {l : List α} {s : σ}, forS (l.map g) f s = forS l (fun a s => f (g a) s) s
  | [], s => rfl
  | a :: l, s => by
    show (f (g a) s).bind _ = (f (g a) s).bind _
    congr 1; funext p
    split <;> first | rfl | exact forS_map
theorem foldS_inv {f : α → σ → Option σ} (Inv : Nat → σ → Prop) : ∀ {l : List α} {k : Nat} {s : σ}, Inv k s → (∀ i a s, l[i]? = some a → Inv (k + i) s → ∃ s', f a s = some s' ∧ Inv (k + i + 1) s') → ∃ s', foldS l f s = some s' ∧ Inv (k + l.length) s'
  | [], k, s, h0, _ => ⟨s, rfl, h0⟩
  | a :: l, k, s, h0, hs => by
    obtain ⟨s1, h1, h2⟩ := hs 0 a s rfl h0
    obtain ⟨s', h3, h4⟩ := foldS_inv Inv (l := l) (k := k + 1) h2 fun i b t hb hi => by
      have := hs (i + 1) b t (by simpa using hb) (by rw [show k + (i + 1) = k + 1 + i by omega]; exact hi)
      rw [show k + (i + 1) + 1 = k + 1 + i + 1 by omega] at this
      exact this
    refine ⟨s', ?_, by rw [List.length_cons, show k + (l.length + 1) = k + 1 + l.length by omega]; exact h4⟩
    show (f a s).bind _ = _
    rw [h1]; exact h3
theorem foldS_range {f : PyData → σ → Option σ} (Inv : Nat → σ → Prop) {n : Nat} {s : σ} (h0 : Inv 0 s) (hs : ∀ i s, i < n → Inv i s → ∃ s', f (natD i) s = some s' ∧ Inv (i + 1) s') : ∃ s', foldS ((List.range n).map natD) f s = some s' ∧ Inv n s' := by
  rw [foldS_map]
  obtain ⟨s', h1, h2⟩ := foldS_inv (f := fun a s => f (natD a) s) Inv (l := List.range n) (k := 0) h0 fun i a s ha hi => by
    obtain ⟨hn, rfl⟩ := List.getElem?_eq_some_iff.mp ha
    rw [List.length_range] at hn
    rw [List.getElem_range]
    rw [Nat.zero_add] at hi ⊢
    exact hs i s hn hi
  rw [List.length_range, Nat.zero_add] at h2
  exact ⟨s', h1, h2⟩
theorem forS_inv {f : α → σ → Option (Out × σ)} (Inv : Nat → σ → Prop) : ∀ {l : List α} {k : Nat} {s : σ}, Inv k s → (∀ i a s, l[i]? = some a → Inv (k + i) s → ∃ s', f a s = some (.nx, s') ∧ Inv (k + i + 1) s') → ∃ s', forS l f s = some (.nx, s') ∧ Inv (k + l.length) s'
  | [], k, s, h0, _ => ⟨s, rfl, h0⟩
  | a :: l, k, s, h0, hs => by
    obtain ⟨s1, h1, h2⟩ := hs 0 a s rfl h0
    obtain ⟨s', h3, h4⟩ := forS_inv Inv (l := l) (k := k + 1) h2 fun i b t hb hi => by
      have := hs (i + 1) b t (by simpa using hb) (by rw [show k + (i + 1) = k + 1 + i by omega]; exact hi)
      rw [show k + (i + 1) + 1 = k + 1 + i + 1 by omega] at this
      exact this
    refine ⟨s', ?_, by rw [List.length_cons, show k + (l.length + 1) = k + 1 + l.length by omega]; exact h4⟩
    show (f a s).bind _ = _
    rw [h1]; exact h3
theorem forS_range {f : PyData → σ → Option (Out × σ)} (Inv : Nat → σ → Prop) {n : Nat} {s : σ} (h0 : Inv 0 s) (hs : ∀ i s, i < n → Inv i s → ∃ s', f (natD i) s = some (.nx, s') ∧ Inv (i + 1) s') : ∃ s', forS ((List.range n).map natD) f s = some (.nx, s') ∧ Inv n s' := by
  rw [forS_map]
  obtain ⟨s', h1, h2⟩ := forS_inv (f := fun a s => f (natD a) s) Inv (l := List.range n) (k := 0) h0 fun i a s ha hi => by
    obtain ⟨hn, rfl⟩ := List.getElem?_eq_some_iff.mp ha
    rw [List.length_range] at hn
    rw [List.getElem_range]
    rw [Nat.zero_add] at hi ⊢
    exact hs i s hn hi
  rw [List.length_range, Nat.zero_add] at h2
  exact ⟨s', h1, h2⟩
theorem forS_all {f : α → Unit → Option (Out × Unit)} {l : List α} (h : ∀ a ∈ l, f a () = some (.nx, ())) : forS l f () = some (.nx, ()) := by
  induction l with
  | nil => rfl
  | cons a l ih =>
    show (f a ()).bind _ = _
    rw [h a (List.mem_cons_self ..)]
    exact ih fun b hb => h b (List.mem_cons_of_mem _ hb)
def rtO : Option PyData → Out
  | some d => .rt d
  | none => .nx
@[simp] theorem thenS_rtO {o : Option PyData} {s : σ} {Kk : σ → Option β} {R : PyData → σ → Option β} : thenS (rtO o, s) Kk R = o.elim (Kk s) fun d => R d s := by cases o <;> rfl
theorem whR_step {n : Nat} {c : σ → Option Bool} {f : σ → Option (Out × σ)} {s s' : σ} (h : c s = some true) (h2 : f s = some (.nx, s')) : whR (n + 1) c f s = whR n c f s' := by
  show (c s).bind _ = _
  rw [h]
  show (f s).bind _ = _
  rw [h2]; rfl
theorem whR_ret {n : Nat} {c : σ → Option Bool} {f : σ → Option (Out × σ)} {s s' : σ} {d : PyData} (h : c s = some true) (h2 : f s = some (.rt d, s')) : whR (n + 1) c f s = some (.rt d, s') := by
  show (c s).bind _ = _
  rw [h]
  show (f s).bind _ = _
  rw [h2]; rfl
theorem whR_end {n : Nat} {c : σ → Option Bool} {f : σ → Option (Out × σ)} {s : σ} (h : c s = some false) : whR (n + 1) c f s = some (.nx, s) := by
  show (c s).bind _ = _
  rw [h]; rfl
theorem zip_map (f : α → PyData) (g : β → PyData) : ∀ (l : List α) (r : List β), zipD (l.map f) (r.map g) = (l.zip r).map fun p => .tuple [f p.1, g p.2]
  | [], _ => by simp [zipD]
  | _ :: _, [] => by simp [zipD]
  | a :: l, b :: r => by
    rw [List.map_cons, List.map_cons, List.zip_cons_cons, List.map_cons]
    unfold zipD
    rw [zip_map f g l r]
end
mutual
def wt : PyData → Nat
  | .none => 20
  | .bool _ => 20
  | .int i => 64 * i.natAbs.log2 + 20
  | .str x => (reprText x).length + 20
  | .list xs => wtL xs + 20
  | .tuple xs => wtL xs + 20
  | .dict kvs => (PyData.dict kvs).shown.length + 20
def wtL : List PyData → Nat
  | [] => 0
  | x :: xs => wt x + 2 + wtL xs
end
def pile (ts : List Str) : Nat := (ts.map fun t => t.length + 2).sum
theorem textFrom_le : ∀ (ts : List Str) (k : Nat) (acc : Str), (textFrom k acc ts).length ≤ acc.length + pile ts
  | [], k, acc => Nat.le_refl _
  | t :: r, k, acc => by
    have ih := textFrom_le r (k + 1) (acc ++ (if k > 0 then ", " else "" : String) ++ t)
    have e : (acc ++ (if k > 0 then ", " else "" : String) ++ t).length = acc.length + (if k > 0 then 2 else 0) + t.length := by
      rw [strLen_append, strLen_append]
      split <;> rfl
    have : pile (t :: r) = t.length + 2 + pile r := rfl
    have h2 : (if k > 0 then 2 else 0) ≤ 2 := by split <;> omega
    show (textFrom (k + 1) _ r).length ≤ _
    omega
theorem join_le : ∀ ts : List Str, (Str.join ", " ts).length ≤ pile ts
  | [] => Nat.le_refl _
  | [x] => by show x.length ≤ x.length + 2 + 0; omega
  | x :: y :: r => by
    have ih := join_le (y :: r)
    show (x ++ ", " ++ Str.join ", " (y :: r)).length ≤ x.length + 2 + pile (y :: r)
    rw [strLen_append, strLen_append]
    have : ((", " : String) : Str).length = 2 := rfl
    omega
theorem int_shown (i : Int) : (PyData.int i).shown.length ≤ i.natAbs.log2 + 20 := by
  have hp : i.natAbs < 10 ^ (i.natAbs.log2 + 1) := by
    have : i.natAbs < 2 ^ (i.natAbs.log2 + 1) := by
      by_cases z : i.natAbs = 0
      · rw [z]; decide
      · exact Nat.lt_log2_self
    exact Nat.lt_of_lt_of_le this (Nat.pow_le_pow_left (by decide) _)
  have := int_text_length_le10 (k := i.natAbs.log2 + 1) (by omega) hp
  show (Str.ofString (toString i)).length ≤ _
  rw [ofString_length]
  omega
mutual
theorem shown_le : ∀ d : PyData, d.shown.length ≤ wt d
  | .none => by show (4 : Nat) ≤ 20; decide
  | .bool b => by cases b <;> decide
  | .int i => by rw [wt]; have := int_shown i; omega
  | .str x => by rw [wt, PyData.shown]; omega
  | .list xs => by
    rw [wt, PyData.shown, listText, strLen_append]
    have := textFrom_le (PyData.shownAll xs) 0 "["
    have e1 : ((("[" : String) : Str)).length = 1 := rfl
    have e2 : ((("]" : String) : Str)).length = 1 := rfl
    have := shownAll_le xs
    omega
  | .tuple xs => by
    rw [wt, PyData.shown, tupleText, strLen_append, strLen_append]
    have := join_le (PyData.shownAll xs)
    have e1 : ((("(" : String) : Str)).length = 1 := rfl
    have e2 : (((if (PyData.shownAll xs).length == 1 then ",)" else ")" : String) : Str)).length ≤ 2 := by split <;> decide
    have := shownAll_le xs
    omega
  | .dict kvs => by rw [wt]; omega
theorem shownAll_le : ∀ xs : List PyData, pile (PyData.shownAll xs) ≤ wtL xs
  | [] => by rw [wtL, PyData.shownAll]; exact Nat.le_refl _
  | x :: xs => by
    rw [wtL, PyData.shownAll]
    have h1 := shown_le x
    have h2 := shownAll_le xs
    show x.shown.length + 2 + pile (PyData.shownAll xs) ≤ _
    omega
end
structure Vl (n s : Nat) (d : PyData) : Prop where
  sh : d.showable = true
  dp : d.depth ≤ n
  wt : wt d ≤ s
structure VlL (n s : Nat) (xs : List PyData) : Prop where
  sh : PyData.showableAll xs = true
  dp : PyData.depthAll xs ≤ n
  wt : wtL xs ≤ s
section
variable {n s t n' s' : Nat} {d x : PyData} {xs ys : List PyData}
theorem Vl.mono (h : Vl n s d) (a : n ≤ n') (b : s ≤ s') : Vl n' s' d := ⟨h.sh, Nat.le_trans h.dp a, Nat.le_trans h.wt b⟩
theorem VlL.mono (h : VlL n s xs) (a : n ≤ n') (b : s ≤ s') : VlL n' s' xs := ⟨h.sh, Nat.le_trans h.dp a, Nat.le_trans h.wt b⟩
theorem VlL.nil : VlL n s [] := ⟨by rw [PyData.showableAll], by rw [PyData.depthAll]; omega, by rw [wtL]; omega⟩
theorem VlL.cons (h : Vl n s x) (r : VlL n t xs) : VlL n (s + 2 + t) (x :: xs) :=
  ⟨by rw [PyData.showableAll, h.sh, r.sh]; rfl, by rw [PyData.depthAll]; exact Nat.max_le.mpr ⟨h.dp, r.dp⟩, by rw [wtL]; have := h.wt; have := r.wt; omega⟩
theorem VlL.head (h : VlL n s (x :: xs)) : Vl n s x := by
  obtain ⟨a, b, c⟩ := h
  rw [PyData.showableAll, Bool.and_eq_true] at a
  rw [PyData.depthAll] at b
  rw [wtL] at c
  exact ⟨a.1, Nat.le_trans (Nat.le_max_left _ _) b, by omega⟩
theorem VlL.tail (h : VlL n s (x :: xs)) : VlL n s xs := by
  obtain ⟨a, b, c⟩ := h
  rw [PyData.showableAll, Bool.and_eq_true] at a
  rw [PyData.depthAll] at b
  rw [wtL] at c
  exact ⟨a.2, Nat.le_trans (Nat.le_max_right _ _) b, by omega⟩
theorem VlL.split (h : VlL n s (x :: xs)) : ∃ s1 s2, Vl n s1 x ∧ VlL n s2 xs ∧ s1 + 2 + s2 ≤ s := by
  have c := h.wt
  rw [wtL] at c
  exact ⟨DL.wt x, DL.wtL xs, ⟨h.head.sh, h.head.dp, Nat.le_refl _⟩, ⟨h.tail.sh, h.tail.dp, Nat.le_refl _⟩, c⟩
theorem VlL.mem : ∀ {xs : List PyData}, VlL n s xs → x ∈ xs → Vl n s x
  | y :: ys, h, m => by
    rcases List.mem_cons.mp m with rfl | m
    · exact h.head
    · exact VlL.mem h.tail m
theorem VlL.append : ∀ {xs : List PyData} {s : Nat}, VlL n s xs → VlL n t ys → VlL n (s + t) (xs ++ ys)
  | [], s, _, r => r.mono (Nat.le_refl _) (by omega)
  | x :: xs, s, h, r => by
    obtain ⟨s1, s2, h1, h2, e⟩ := h.split
    exact (VlL.cons h1 (VlL.append h2 r)).mono (Nat.le_refl _) (by omega)
theorem VlL.drop : ∀ {xs : List PyData} (k : Nat), VlL n s xs → VlL n s (xs.drop k)
  | xs, 0, h => h
  | [], k + 1, h => h
  | x :: xs, k + 1, h => VlL.drop (xs := xs) k h.tail
theorem VlL.take : ∀ {xs : List PyData} {s : Nat} (k : Nat), VlL n s xs → VlL n s (xs.take k)
  | xs, s, 0, h => by rw [List.take_zero]; exact .nil
  | [], s, k + 1, h => h
  | x :: xs, s, k + 1, h => by
    obtain ⟨s1, s2, h1, h2, e⟩ := h.split
    exact (VlL.cons h1 (VlL.take (xs := xs) k h2)).mono (Nat.le_refl _) (by omega)
theorem VlL.reverse : ∀ {xs : List PyData} {s : Nat}, VlL n s xs → VlL n s xs.reverse
  | [], s, h => h
  | x :: xs, s, h => by
    obtain ⟨s1, s2, h1, h2, e⟩ := h.split
    rw [List.reverse_cons]
    exact ((VlL.reverse h2).append (VlL.cons h1 (VlL.nil (s := 0)))).mono (Nat.le_refl _) (by omega)
theorem VlL.tuple (h : VlL n s xs) : Vl (n + 1) (s + 20) (.tuple xs) := ⟨by rw [PyData.showable]; exact h.sh, by rw [PyData.depth]; have := h.dp; omega, by rw [DL.wt]; have := h.wt; omega⟩
theorem VlL.list (h : VlL n s xs) : Vl (n + 1) (s + 20) (.list xs) := ⟨by rw [PyData.showable]; exact h.sh, by rw [PyData.depth]; have := h.dp; omega, by rw [DL.wt]; have := h.wt; omega⟩
theorem Vl.tup (h : Vl (n + 1) s (.tuple xs)) : VlL n s xs := ⟨by have := h.sh; rwa [PyData.showable] at this, by have := h.dp; rw [PyData.depth] at this; omega, by have := h.wt; rw [DL.wt] at this; omega⟩
theorem VlL.len : ∀ {xs : List PyData} {s : Nat}, VlL n s xs → xs.length ≤ s
  | [], _, _ => Nat.zero_le _
  | x :: xs, s, h => by
    obtain ⟨s1, s2, _, h2, e⟩ := h.split
    have := VlL.len h2
    rw [List.length_cons]; omega
theorem gRepr_ok (h : Vl n s d) (hn : n ≤ 58) (hs : s ≤ 16000000) : gRepr d = some (.str d.shown) := by
  unfold gRepr
  rw [if_pos ⟨h.sh, Nat.le_trans h.dp hn, Nat.le_trans (shown_le d) (Nat.le_trans h.wt (Nat.le_trans hs (by decide)))⟩]
theorem vl_map {α : Type} {f : α → PyData} {l : List α} {c : Nat} (h : ∀ a ∈ l, Vl n c (f a)) : VlL n (l.length * (c + 2)) (l.map f) := by
  induction l with
  | nil => exact .nil
  | cons a l ih =>
    rw [List.map_cons]
    refine (VlL.cons (h a (List.mem_cons_self ..)) (ih fun b hb => h b (List.mem_cons_of_mem _ hb))).mono (Nat.le_refl _) ?_
    rw [List.length_cons, Nat.add_mul]; omega
end
end DL
namespace DL
open PySem L2 PySem.Spec
section
variable {i j : Int} {b c : Bool} {x y z d : PyData} {xs ys zs : List PyData} {s t : Str} {α β γ σ : Type}
theorem mapE_typ {f : α → σ → Option (β × σ)} (m : γ → β) (Inv : Nat → σ → Prop) (P : Nat → γ → Prop) : ∀ {l : List α} {k : Nat} {s : σ}, Inv k s → (∀ i a s, l[i]? = some a → Inv (k + i) s → ∃ y s', f a s = some (m y, s') ∧ Inv (k + i + 1) s' ∧ P (k + i) y) → ∃ (ys : List γ) (s' : σ), mapE l f s = some (ys.map m, s') ∧ Inv (k + l.length) s' ∧ ys.length = l.length ∧ ∀ (i : Nat) (y : γ), ys[i]? = some y → P (k + i) y
  | [], k, s, h0, _ => ⟨[], s, rfl, h0, rfl, fun i y h => by simp at h⟩
  | a :: l, k, s, h0, hs => by
    obtain ⟨y, s1, h1, h2, h3⟩ := hs 0 a s rfl h0
    obtain ⟨ys, s', h4, h5, h6, h7⟩ := mapE_typ m Inv P (l := l) (k := k + 1) h2 fun i b t hb hi => by
      have := hs (i + 1) b t (by simpa using hb) (by rw [show k + (i + 1) = k + 1 + i by omega]; exact hi)
      rw [show k + (i + 1) + 1 = k + 1 + i + 1 by omega, show k + (i + 1) = k + 1 + i by omega] at this
      exact this
    refine ⟨y :: ys, s', ?_, by rw [List.length_cons, show k + (l.length + 1) = k + 1 + l.length by omega]; exact h5, by simp [h6], fun i z hz => ?_⟩
    · show (f a s).bind _ = _
      rw [h1]
      show (mapE l f s1).bind _ = _
      rw [h4]; rfl
    · cases i with
      | zero => simp at hz; subst hz; exact h3
      | succ i => rw [show k + (i + 1) = k + 1 + i by omega]; exact h7 i z (by simpa using hz)
theorem rng2_nat {m n : Nat} (h : n ≤ 1000000) (h2 : m ≤ 1000000) : rng2 (.int (m : Nat)) (.int (n : Nat)) = some ((List.range' m (n - m)).map natD) := by
  simp only [rng2]
  rw [if_pos ⟨le_line (by omega), by omega, by omega, by omega, by omega⟩, show ((n : Int) - m).toNat = n - m by omega]
  unfold rngD
  rw [List.range'_eq_map_range, List.map_map]
  exact congrArg some (List.map_congr_left fun a _ => by show PyData.int _ = PyData.int _; simp)
@[simp] theorem ints_map {l : List Int} : intsOf (l.map .int) = some l := by
  induction l with
  | nil => rfl
  | cons a l ih => show (intsOf (l.map .int)).map (a :: ·) = _; rw [ih]; rfl
theorem xSortSetL {l : List Int} (h : l.length ≤ 3000) : gSortSet (.list (l.map .int)) = some (.list ((sortSet l).map .int)) := by
  show ((intsOf (l.map .int)).bind fun ns => if ns.length < 4000 then some ns else none).map _ = _
  rw [ints_map]
  show (if l.length < 4000 then some l else none).map _ = _
  rw [if_pos (by omega)]; rfl
end
end DL
namespace DL
open PySem L2 PySem.Spec
section
variable {tw : CT} {j : Nat} {gg : PyData → Option PyData} {f : Ef} {e : En}
@[simp] theorem rAsgE1 : sAsgE1 tw j gg f e = (f e).bind fun p => (gIsOk tw p.1).bind fun w => (asB w).bind fun b => if b = true then (gUn p.1).bind fun d => (gg d).bind fun r => some (.nx, p.2.set j r) else some (.rt p.1, p.2) := rfl
end
end DL
namespace DL
open PySem L2 PySem.Spec
@[simp] theorem stb_e {a : Addr} {d : Option Addr} {fl : List (Str × V)} {c : Str} : stb (.e a d fl c) = false := rfl
section
variable {tw : CT} {j k : Nat} {call : Ef} {e : En} {g : Gq}
@[simp] theorem rAppE : sAppE tw j k call e = (call e).bind fun p => (gIsOk tw p.1).bind fun w => (asB w).bind fun b => if b = true then (gUn p.1).bind fun d => (gAppF k (e.getD j .none) d).bind fun d2 => some (.nx, p.2.set j d2) else some (.rt p.1, p.2) := rfl
@[simp] theorem rLstP : eLstP g e = (g e).bind fun d => (gList d).bind fun r => some (r, e) := rfl
end
end DL
namespace DL
open PySem L2 PySem.Spec
def dcB (vs : List Nat) (gf : Gf) (tf : Bf) (kf vf : Ef) (d : PyData) (e : En) : Option (Option (PyData × PyData) × En) :=
  (gf d e).bind fun e1 => (tf e1).bind fun p => if p.1 = true then (kf p.2).bind fun q => (vf q.2).bind fun r => some (some (q.1, r.1), restE e r.2 vs) else some (none, restE e p.2 vs)
@[simp] theorem rDc {it : Lf} {vs : List Nat} {gf : Gf} {tf : Bf} {kf vf : Ef} {e : En} : eDc it vs gf tf kf vf e = (it e).bind fun p => (dcL vs gf tf kf vf p.1 [] p.2).bind fun q => some (.dict (q.1.map kvD), restE p.2 q.2 vs) := rfl
@[simp] theorem rdcB {vs : List Nat} {gf : Gf} {tf : Bf} {kf vf : Ef} {d : PyData} {e : En} : dcB vs gf tf kf vf d e = (gf d e).bind fun e1 => (tf e1).bind fun p => if p.1 = true then (kf p.2).bind fun q => (vf q.2).bind fun r => some (some (q.1, r.1), restE e r.2 vs) else some (none, restE e p.2 vs) := rfl
def gThIn : PyData → PyData → Option PyData
  | .list (_ :: ds), r => some (.list (r :: ds))
  | _, _ => none
def gThOut : PyData → PyData → Option PyData
  | r, .list (_ :: es) => (grd (flat1 r && es.all flatF)).bind fun _ => some (.list (.none :: es))
  | _, _ => none
@[simp] theorem rThawO {i j : Nat} {f : Ef} {e : En} : eThawO i j f e = (gThIn (e.getD i .none) (e.getD j .none)).bind fun o => (f (e.set i o)).bind fun p => (gThOut p.1 (p.2.getD i .none)).bind fun w => some (p.1, e.set i w) := by
  unfold eThawO
  cases h : e.getD i .none with
  | list ds =>
    cases ds with
    | nil => rfl
    | cons d ds =>
      show (f (e.set i (.list (e.getD j .none :: ds)))).bind _ = (f (e.set i (.list (e.getD j .none :: ds)))).bind _
      congr 1
      funext p
      cases h2 : p.2.getD i .none with
      | list es =>
        cases es with
        | nil => rfl
        | cons e0 es =>
          show (grd _).bind _ = ((grd _).bind _).bind _
          rw [Option.bind_assoc]
          rfl
      | _ => rfl
  | _ => rfl
end DL
namespace LK
open PySem L2 PySem.Spec PyProof.Rows DL
def topS (i : Nat) : Stmt := PySem.Challenge.pw_listedges_k80_lists_texts_that_are_wrong.main.body.getD i (.Pass ⟨0, 0, 0, 0⟩)
abbrev st__law_state : Stmt := topS 26
theorem sc__law_state : FnScope ["_law_script", "_law_cells", "_law_cell"] ["_law_script"] (defScope st__law_state) := ⟨rfl, rfl, rfl, by decide +kernel, rfl, by decide +kernel, by decide +kernel⟩
abbrev st__law_draw : Stmt := topS 27
theorem sc__law_draw : FnScope ["_law_state_here", "_law_limit", "_law_rest", "_law_cell", "_law_mixed"] ["_law_state_here", "_law_limit"] (defScope st__law_draw) := ⟨rfl, rfl, rfl, by decide +kernel, rfl, by decide +kernel, by decide +kernel⟩
abbrev st__law_pick : Stmt := topS 28
theorem sc__law_pick : FnScope ["_law_state_here", "_law_items"] ["_law_state_here", "_law_items"] (defScope st__law_pick) := ⟨rfl, rfl, rfl, by decide +kernel, rfl, by decide +kernel, by decide +kernel⟩
abbrev st__law_roster : Stmt := topS 29
theorem sc__law_roster : FnScope ["_law_state_here", "_law_people", "_law_most", "_law_teachers", "_law_groups", "_law_kind", "_law_lessons", "_law_k", "_law_lesson"] ["_law_state_here", "_law_people", "_law_most"] (defScope st__law_roster) := ⟨rfl, rfl, rfl, by decide +kernel, rfl, by decide +kernel, by decide +kernel⟩
abbrev st__law_list_text : Stmt := topS 30
theorem sc__law_list_text : FnScope ["_law_hours", "_law_hour"] ["_law_hours"] (defScope st__law_list_text) := ⟨rfl, rfl, rfl, by decide +kernel, rfl, by decide +kernel, by decide +kernel⟩
abbrev st__law_lists_text : Stmt := topS 31
theorem sc__law_lists_text : FnScope ["_law_lists_here", "_law_hours"] ["_law_lists_here"] (defScope st__law_lists_text) := ⟨rfl, rfl, rfl, by decide +kernel, rfl, by decide +kernel, by decide +kernel⟩
abbrev st__law_lists : Stmt := topS 32
theorem sc__law_lists : FnScope ["_law_state_here", "_law_roster_here", "_law_most", "_law_low", "_law_found", "_law_lesson", "_law_some", "_law_k"] ["_law_state_here", "_law_roster_here", "_law_most"] (defScope st__law_lists) := ⟨rfl, rfl, rfl, by decide +kernel, rfl, by decide +kernel, by decide +kernel⟩
abbrev st__law_spoilt : Stmt := topS 33
theorem sc__law_spoilt : FnScope ["_law_state_here", "_law_text", "_law_at", "_law_sign", "_law_words", "_law_k", "_law_some"] ["_law_state_here", "_law_text"] (defScope st__law_spoilt) := ⟨rfl, rfl, rfl, by decide +kernel, rfl, by decide +kernel, by decide +kernel⟩
abbrev st__law_odd : Stmt := topS 34
theorem sc__law_odd : FnScope ["_law_state_here", "_law_some"] ["_law_state_here"] (defScope st__law_odd) := ⟨rfl, rfl, rfl, by decide +kernel, rfl, by decide +kernel, by decide +kernel⟩
abbrev st__law_same : Stmt := topS 35
theorem sc__law_same : FnScope ["_law_found", "_law_due_here"] ["_law_found", "_law_due_here"] (defScope st__law_same) := ⟨rfl, rfl, rfl, by decide +kernel, rfl, by decide +kernel, by decide +kernel⟩
abbrev st_words_of : Stmt := topS 21
theorem sc_words_of : FnScope ["value"] ["value"] (defScope st_words_of) := ⟨rfl, rfl, rfl, by decide +kernel, rfl, by decide +kernel, by decide +kernel⟩
abbrev st_number_in : Stmt := topS 18
theorem sc_number_in : FnScope ["word", "digit"] ["word"] (defScope st_number_in) := ⟨rfl, rfl, rfl, by decide +kernel, rfl, by decide +kernel, by decide +kernel⟩
abbrev st_numbers_in : Stmt := topS 19
theorem sc_numbers_in : FnScope ["word", "mark", "numbers", "part"] ["word", "mark"] (defScope st_numbers_in) := ⟨rfl, rfl, rfl, by decide +kernel, rfl, by decide +kernel, by decide +kernel⟩
abbrev st_is_number : Stmt := topS 10
theorem sc_is_number : FnScope ["value", "low", "high"] ["value", "low", "high"] (defScope st_is_number) := ⟨rfl, rfl, rfl, by decide +kernel, rfl, by decide +kernel, by decide +kernel⟩
abbrev st_is_hour : Stmt := topS 13
theorem sc_is_hour : FnScope ["value"] ["value"] (defScope st_is_hour) := ⟨rfl, rfl, rfl, by decide +kernel, rfl, by decide +kernel, by decide +kernel⟩
abbrev st_is_ascending : Stmt := topS 11
theorem sc_is_ascending : FnScope ["values", "one", "other"] ["values"] (defScope st_is_ascending) := ⟨rfl, rfl, rfl, by decide +kernel, rfl, by decide +kernel, by decide +kernel⟩
abbrev st_is_list : Stmt := topS 14
theorem sc_is_list : FnScope ["value", "hour"] ["value"] (defScope st_is_list) := ⟨rfl, rfl, rfl, by decide +kernel, rfl, by decide +kernel, by decide +kernel⟩
abbrev st_list_in : Stmt := topS 20
theorem sc_list_in : FnScope ["word", "hours"] ["word"] (defScope st_list_in) := ⟨rfl, rfl, rfl, by decide +kernel, rfl, by decide +kernel, by decide +kernel⟩
abbrev st_parse_lists : Stmt := topS 22
theorem sc_parse_lists : FnScope ["value", "words", "lists", "index", "word", "hours"] ["value"] (defScope st_parse_lists) := ⟨rfl, rfl, rfl, by decide +kernel, rfl, by decide +kernel, by decide +kernel⟩
abbrev st__law_index : Stmt := topS 36
theorem sc__law_index : FnScope ["_law_call", "_law_found", "e"] ["_law_call"] (defScope st__law_index) := ⟨rfl, rfl, rfl, by decide +kernel, rfl, by decide +kernel, by decide +kernel⟩
abbrev st__law_number_in : Stmt := topS 24
theorem sc__law_number_in : FnScope ["_law_word", "_law_sign"] ["_law_word"] (defScope st__law_number_in) := ⟨rfl, rfl, rfl, by decide +kernel, rfl, by decide +kernel, by decide +kernel⟩
abbrev st__law_list_in : Stmt := topS 25
theorem sc__law_list_in : FnScope ["_law_word", "_law_hours", "_law_late", "_law_part", "_law_hour", "_law_k"] ["_law_word"] (defScope st__law_list_in) := ⟨rfl, rfl, rfl, by decide +kernel, rfl, by decide +kernel, by decide +kernel⟩
abbrev st__law_due : Stmt := topS 37
theorem sc__law_due : FnScope ["_law_value", "_law_words", "_law_lists_here", "_law_wrong", "_law_word", "_law_k"] ["_law_value"] (defScope st__law_due) := ⟨rfl, rfl, rfl, by decide +kernel, rfl, by decide +kernel, by decide +kernel⟩
abbrev st_law : Stmt := topS 38
theorem sc_law : FnScope ["_law_script", "_law_state_here", "_law_long", "_law_turn", "_law_roster_here", "_law_text", "_law_values", "_law_k", "_law_value", "_law_kept", "lamtab"] ["_law_script"] (defScope st_law) := ⟨rfl, rfl, rfl, by decide +kernel, rfl, by decide +kernel, by decide +kernel⟩
abbrev ini_BadText : Stmt := clsAt (topS 8) 0
theorem sci_BadText : FnScope ["self", "index"] ["self", "index"] (defScope ini_BadText) := ⟨rfl, rfl, rfl, by decide +kernel, rfl, by decide +kernel, by decide +kernel⟩
def hd0 : List He.DefD := [⟨("_law_state", none), "_law_state", "_law_state", defArgs st__law_state, defBody st__law_state, defScope st__law_state, [], []⟩,
  ⟨("_law_draw", none), "_law_draw", "_law_draw", defArgs st__law_draw, defBody st__law_draw, defScope st__law_draw, [], []⟩,
  ⟨("_law_pick", none), "_law_pick", "_law_pick", defArgs st__law_pick, defBody st__law_pick, defScope st__law_pick, [], []⟩,
  ⟨("_law_roster", none), "_law_roster", "_law_roster", defArgs st__law_roster, defBody st__law_roster, defScope st__law_roster, [], []⟩,
  ⟨("_law_list_text", none), "_law_list_text", "_law_list_text", defArgs st__law_list_text, defBody st__law_list_text, defScope st__law_list_text, [], []⟩,
  ⟨("_law_lists_text", none), "_law_lists_text", "_law_lists_text", defArgs st__law_lists_text, defBody st__law_lists_text, defScope st__law_lists_text, [], []⟩,
  ⟨("_law_lists", none), "_law_lists", "_law_lists", defArgs st__law_lists, defBody st__law_lists, defScope st__law_lists, [], []⟩,
  ⟨("_law_spoilt", none), "_law_spoilt", "_law_spoilt", defArgs st__law_spoilt, defBody st__law_spoilt, defScope st__law_spoilt, [], []⟩,
  ⟨("_law_odd", none), "_law_odd", "_law_odd", defArgs st__law_odd, defBody st__law_odd, defScope st__law_odd, [], []⟩,
  ⟨("_law_same", none), "_law_same", "_law_same", defArgs st__law_same, defBody st__law_same, defScope st__law_same, [], []⟩,
  ⟨("words_of", none), "words_of", "words_of", defArgs st_words_of, defBody st_words_of, defScope st_words_of, [], []⟩,
  ⟨("number_in", none), "number_in", "number_in", defArgs st_number_in, defBody st_number_in, defScope st_number_in, [], []⟩,
  ⟨("numbers_in", none), "numbers_in", "numbers_in", defArgs st_numbers_in, defBody st_numbers_in, defScope st_numbers_in, [], []⟩,
  ⟨("is_number", none), "is_number", "is_number", defArgs st_is_number, defBody st_is_number, defScope st_is_number, [], []⟩,
  ⟨("is_hour", none), "is_hour", "is_hour", defArgs st_is_hour, defBody st_is_hour, defScope st_is_hour, [], []⟩,
  ⟨("is_ascending", none), "is_ascending", "is_ascending", defArgs st_is_ascending, defBody st_is_ascending, defScope st_is_ascending, [], []⟩,
  ⟨("is_list", none), "is_list", "is_list", defArgs st_is_list, defBody st_is_list, defScope st_is_list, [], []⟩,
  ⟨("list_in", none), "list_in", "list_in", defArgs st_list_in, defBody st_list_in, defScope st_list_in, [], []⟩,
  ⟨("parse_lists", none), "parse_lists", "parse_lists", defArgs st_parse_lists, defBody st_parse_lists, defScope st_parse_lists, [], []⟩,
  ⟨("_law_index", none), "_law_index", "_law_index", defArgs st__law_index, defBody st__law_index, defScope st__law_index, [], []⟩,
  ⟨("_law_number_in", none), "_law_number_in", "_law_number_in", defArgs st__law_number_in, defBody st__law_number_in, defScope st__law_number_in, [], []⟩,
  ⟨("_law_list_in", none), "_law_list_in", "_law_list_in", defArgs st__law_list_in, defBody st__law_list_in, defScope st__law_list_in, [], []⟩,
  ⟨("_law_due", none), "_law_due", "_law_due", defArgs st__law_due, defBody st__law_due, defScope st__law_due, [], []⟩,
  ⟨("law", none), "law", "law", defArgs st_law, defBody st_law, defScope st_law, [], []⟩,
  ⟨("BadText", some "__init__"), "__init__", "BadText.__init__", defArgs ini_BadText, defBody ini_BadText, defScope ini_BadText, [], []⟩]
abbrev A_BadList (K : PySem.W.Frag) : Addr := He.ga K "BadList"
abbrev A_BadLists (K : PySem.W.Frag) : Addr := He.ga K "BadLists"
abbrev A_BadRoster (K : PySem.W.Frag) : Addr := He.ga K "BadRoster"
abbrev A_BadText (K : PySem.W.Frag) : Addr := He.ga K "BadText"
abbrev A_ListError (K : PySem.W.Frag) : Addr := He.ga K "ListError"
def hb0 (K : PySem.W.Frag) : List Bool := [decide (PySem.W.nsIn K mainGlobals "_law_state" = some (some (.ref (He.ga K "_law_state")))),
  decide (PySem.W.nsIn K mainGlobals "_law_draw" = some (some (.ref (He.ga K "_law_draw")))),
  decide (PySem.W.nsIn K mainGlobals "_law_pick" = some (some (.ref (He.ga K "_law_pick")))),
  decide (PySem.W.nsIn K mainGlobals "_law_roster" = some (some (.ref (He.ga K "_law_roster")))),
  decide (PySem.W.nsIn K mainGlobals "_law_list_text" = some (some (.ref (He.ga K "_law_list_text")))),
  decide (PySem.W.nsIn K mainGlobals "_law_lists_text" = some (some (.ref (He.ga K "_law_lists_text")))),
  decide (PySem.W.nsIn K mainGlobals "_law_lists" = some (some (.ref (He.ga K "_law_lists")))),
  decide (PySem.W.nsIn K mainGlobals "_law_spoilt" = some (some (.ref (He.ga K "_law_spoilt")))),
  decide (PySem.W.nsIn K mainGlobals "_law_odd" = some (some (.ref (He.ga K "_law_odd")))),
  decide (PySem.W.nsIn K mainGlobals "_law_same" = some (some (.ref (He.ga K "_law_same")))),
  decide (PySem.W.nsIn K mainGlobals "words_of" = some (some (.ref (He.ga K "words_of")))),
  decide (PySem.W.nsIn K mainGlobals "number_in" = some (some (.ref (He.ga K "number_in")))),
  decide (PySem.W.nsIn K mainGlobals "numbers_in" = some (some (.ref (He.ga K "numbers_in")))),
  decide (PySem.W.nsIn K mainGlobals "is_number" = some (some (.ref (He.ga K "is_number")))),
  decide (PySem.W.nsIn K mainGlobals "is_hour" = some (some (.ref (He.ga K "is_hour")))),
  decide (PySem.W.nsIn K mainGlobals "is_ascending" = some (some (.ref (He.ga K "is_ascending")))),
  decide (PySem.W.nsIn K mainGlobals "is_list" = some (some (.ref (He.ga K "is_list")))),
  decide (PySem.W.nsIn K mainGlobals "list_in" = some (some (.ref (He.ga K "list_in")))),
  decide (PySem.W.nsIn K mainGlobals "parse_lists" = some (some (.ref (He.ga K "parse_lists")))),
  decide (PySem.W.nsIn K mainGlobals "_law_index" = some (some (.ref (He.ga K "_law_index")))),
  decide (PySem.W.nsIn K mainGlobals "_law_number_in" = some (some (.ref (He.ga K "_law_number_in")))),
  decide (PySem.W.nsIn K mainGlobals "_law_list_in" = some (some (.ref (He.ga K "_law_list_in")))),
  decide (PySem.W.nsIn K mainGlobals "_law_due" = some (some (.ref (He.ga K "_law_due")))),
  decide (PySem.W.nsIn K mainGlobals "law" = some (some (.ref (He.ga K "law")))),
  decide (PySem.W.nsIn K mainGlobals "BadText" = some (some (.ref (A_BadText K)))),
  decide (PySem.W.subIn K (.ref (A_BadText K)) (.type "BaseException") = some true),
  decide (PySem.W.typeIn K (.ref (A_BadText K)) = some (.type "type")),
  PySem.W.hasDictIn K (A_BadText K),
  decide (PySem.W.nsIn K mainGlobals "ListError" = some (some (.ref (A_ListError K)))),
  decide (PySem.W.subIn K (.ref (A_ListError K)) (.type "BaseException") = some true)]
def hb1 (K : PySem.W.Frag) : List Bool := [decide (PySem.W.typeIn K (.ref (A_ListError K)) = some (.type "type")),
  PySem.W.hasDictIn K (A_ListError K),
  decide (PySem.W.nsIn K mainGlobals "BadRoster" = some (some (.ref (A_BadRoster K)))),
  decide (PySem.W.subIn K (.ref (A_BadRoster K)) (.type "BaseException") = some true),
  decide (PySem.W.typeIn K (.ref (A_BadRoster K)) = some (.type "type")),
  PySem.W.hasDictIn K (A_BadRoster K),
  decide (PySem.W.nsIn K mainGlobals "BadLists" = some (some (.ref (A_BadLists K)))),
  decide (PySem.W.subIn K (.ref (A_BadLists K)) (.type "BaseException") = some true),
  decide (PySem.W.typeIn K (.ref (A_BadLists K)) = some (.type "type")),
  PySem.W.hasDictIn K (A_BadLists K),
  decide (PySem.W.nsIn K mainGlobals "BadList" = some (some (.ref (A_BadList K)))),
  decide (PySem.W.subIn K (.ref (A_BadList K)) (.type "BaseException") = some true),
  decide (PySem.W.typeIn K (.ref (A_BadList K)) = some (.type "type")),
  PySem.W.hasDictIn K (A_BadList K),
  decide (PySem.W.specialIn K (.builtin "object.__class__") "__get__" = some (some (.builtin "getset_descriptor.__get__"))),
  decide (PySem.W.takesIn K (.builtin "object.__class__") = some true),
  DL.oexB "ValueError.__new__" K (A_BadText K),
  PySem.HandSPX.refsVE (DL.mroB K (A_BadText K)),
  decide (PySem.W.findIn K (.ref (A_BadText K)) "__setattr__" = some (some (.builtin "object.__setattr__"))),
  decide (PySem.W.findIn K (.ref (A_BadText K)) "__getattribute__" = some (some (.builtin "BaseException.__getattribute__"))),
  decide (PySem.W.findIn K (.ref (A_BadText K)) "__getattr__" = some none),
  decide (PySem.W.findIn K (.ref (A_BadText K)) "__class__" = some (some (.builtin "object.__class__"))),
  decide (PySem.W.mroIn K (A_BadText K) (.type "object") = some true),
  PySem.W.keepIn K (.ref (A_BadText K)),
  decide (PySem.W.findIn K (.ref (A_BadText K)) "index" = some none),
  decide (PySem.W.findIn K (.ref (A_BadText K)) "__init__" = some (some (.ref (He.ma K (A_BadText K) "__init__")))),
  decide (PySem.W.typeIn K (.ref (He.ma K (A_BadText K) "__init__")) = some (.type "function")),
  decide (PySem.W.subIn K (.ref (A_BadText K)) (.ref (A_ListError K)) = some true),
  decide (PySem.W.kitOne K (.ref (A_BadText K)) (.ref (A_BadText K)) = some true),
  decide (PySem.W.kitAny K (.ref (A_BadText K)) [(.ref (A_BadList K)), (.ref (A_BadLists K)), (.ref (A_BadRoster K))] = some false)]
def hb2 (K : PySem.W.Frag) : List Bool := [decide (PySem.W.nsIn K mainGlobals "abs" = some none),
  decide (PySem.W.nsIn K mainGlobals "len" = some none),
  decide (PySem.W.nsIn K mainGlobals "range" = some none),
  decide (PySem.W.nsIn K mainGlobals "tuple" = some none),
  decide (PySem.W.nsIn K mainGlobals "str" = some none),
  decide (PySem.W.nsIn K mainGlobals "sorted" = some none),
  decide (PySem.W.nsIn K mainGlobals "set" = some none),
  decide (PySem.W.nsIn K mainGlobals "repr" = some none),
  decide (PySem.W.nsIn K mainGlobals "isinstance" = some none),
  decide (PySem.W.nsIn K mainGlobals "any" = some none),
  decide (PySem.W.nsIn K mainGlobals "int" = some none),
  decide (PySem.W.nsIn K mainGlobals "bool" = some none),
  decide (PySem.W.nsIn K mainGlobals "all" = some none),
  decide (PySem.W.nsIn K mainGlobals "zip" = some none),
  decide (PySem.W.nsIn K mainGlobals "enumerate" = some none),
  (He.Fa.int "LONGEST" 7).ok K,
  (He.Fa.int "LAST_HOUR" 1000000).ok K,
  (He.Fa.int "MAX_LIST" 20).ok K,
  (He.Fa.str "NONE" "none").ok K,
  (He.Fa.int "MAX_LESSONS" 16).ok K]
def hex_0 (K : PySem.W.Frag) : Bool := ((hb0 K).all id && ((hb1 K).all id && ((hb2 K).all id && true)))
def hex (K : PySem.W.Frag) : Bool := (hex_0 K && true)
def hdp_0 : List He.DefD := hd0
def hdefs : List He.DefD := hdp_0
def hn0 : List PySem.Str := ["MAX_LESSONS", "LAST_HOUR", "MAX_LIST", "NONE", "LONGEST", "is_number", "is_ascending", "is_hour", "is_list", "number_in", "numbers_in", "list_in", "words_of", "parse_lists", "_law_number_in", "_law_list_in", "_law_state", "_law_draw", "_law_pick", "_law_roster", "_law_list_text", "_law_lists_text", "_law_lists", "_law_spoilt", "_law_odd", "_law_same", "_law_index", "_law_due", "ListError", "BadRoster"]
def hn1 : List PySem.Str := ["BadLists", "BadList", "BadText"]
def hnames : List PySem.Str := hn0 ++ hn1
abbrev hR : PySem.W.OpenRow := PySem.W.OpenLaw.row PySem.Challenge.rw_listedges_k80_lists_texts_that_are_wrong
abbrev hk : PySem.W.Hook := hookY 2500 hdefs [] [("law", none)] hex
def hob (s : PySem.W.SharedT) : He.AlX := obsY 2500 hdefs [] [("law", none)] hex (HandSHeadRun.getT s)
set_option maxHeartbeats 0 in
theorem hrun_t (w : World) : Sees (PySem.W.OpenLaw.row PySem.Challenge.rw_listedges_k80_lists_texts_that_are_wrong) 100000 w (tabY 2500 [("law", none)]) true := by
  intro os
  kernel_rfl
theorem hob_eq (s : PySem.W.SharedT) : hob s = hk.obs s.abs := obsY_at s
set_option maxHeartbeats 0 in
theorem hrun_l (w : World) : Sees hR 100000 w (fun s => HandSHeadRun.looksF hR.prog (PySem.W.boot_heap w.params) s.abs) true := by
  intro os
  kernel_rfl
set_option maxHeartbeats 0 in
theorem hrun_s (w : World) : Sees hR 100000 w (fun s => HandSHeadRun.seenQ (PySem.W.view hR.prog [38]) hnames (PySem.importedModules hR.prog.main.body) (fun s => PySem.W.xlAt (PySem.W.view hR.prog [38]) [] s && PySem.W.recOk hR.toRowW.records s) s.abs) (PySem.W.openGood (PySem.W.view hR.prog [38]) hnames) := by
  intro os
  kernel_rfl
set_option maxHeartbeats 0 in
theorem hrun_d0 (w : World) : Sees hR 100000 w (defY 2500 hdp_0) (He.valD hdp_0) := by
  intro os
  kernel_rfl
set_option maxHeartbeats 0 in
theorem hrun_b0 (w : World) : Sees hR 100000 w (boolY 2500 hex_0) true := by
  intro os
  kernel_rfl
theorem hrun_d (w : World) : Sees hR 100000 w (defY 2500 hdefs) (He.valD hdefs) := hrun_d0 w
theorem hrun_b (w : World) : Sees hR 100000 w (boolY 2500 hex) true := ((hrun_b0 w).tt ((hrun_b0 w).to (g := fun _ => true) (b := true) (fun _ _ => rfl)))
theorem hrun (w : World) : HandSHeadRun.RunEq hR (PySem.W.view hR.prog [38]) hk hob 100000 hnames w := Sees.run ((hrun_l w).and (hrun_s w)) (Sees.allT (hrun_d w) (hrun_b w) (hrun_t w))
end LK
namespace LK
open PySem L2 PySem.Spec DL
def tb_words_of_x : CT := [("BadText", ["index"])]
def tb_parse_lists_x : CT := [("BadText", ["index"])]
def tb__law_index_t1 : CT := [("BadText", ["index"])]
def tb__law_index_t1_parse_lists_x : CT := [("BadText", ["index"])]
def E__law_state_1 : Ef := (e1 gAbs (eVar 2))
def T__law_state_1 : Bf := (bT (e2 gGe (eVar 2) (e2 gPow (eC (.int 10)) (eC (.int 18)))))
def E__law_state_2 : Ef := (eVar 2)
def S__law_state : Sf := (sSeq (sAsg 1 (eLc (iSeq (eVar 0)) [2] (gNm 2) bYes E__law_state_1))
  (sRet (eLst (lCons (eLc (iSeq (eVar 1)) [2] (gNm 2) T__law_state_1 E__law_state_2) (lCons (e2 gAddL (eVar 1) (eLst (lCons (e2 gAdd (e1 gLen (eVar 1)) (eC (.int 7))) lNil))) (lCons (eC (.int 0)) lNil))))))
def F__law_state : DFn := runF S__law_state [.q] 2
def B__law_draw_1 : Sf := (sPost [2] [1, 2, 3, 4]
  (sSeq (sAsg 2 (eItm (gSub1 (qVar 0) (qC (.int 0))) (qC (.int 0))))
  (sSeq (sIf (bT (e2 gGt (eVar 2) (eC (.int 0))))
    (sSeq (sSet (gSub1 (qVar 0) (qC (.int 0))) (pSub1 (qVar 0) (qC (.int 0)) (pVar 0)) (qC (.int 0)) (e2 gFdiv (eVar 2) (eVar 1)))
  (sRet (e2 gMod (eVar 2) (eVar 1))))
    sNil)
  (sDrop (ePopAt (gSub1 (qVar 0) (qC (.int 0))) (pSub1 (qVar 0) (qC (.int 0)) (pVar 0)) (qC (.int 0)))))))
def W__law_draw_1 : Bf := (bQT (q2 gNe (q2 gIx (qVar 0) (qC (.int 0))) (qC (.list []))))
def S__law_draw : Sf := (sSeq (sPre [2] (sWh fuel W__law_draw_1
    B__law_draw_1))
  (sSeq (sSet (qVar 0) (pVar 0) (qC (.int 2)) (e2 gAdd (eQ (q2 gIx (qVar 0) (qC (.int 2)))) (eC (.int 1))))
  (sSeq (sAsg 3 (e2 gMod (eItm (gSub1 (qVar 0) (qC (.int 1))) (q2 gMod (q2 gIx (qVar 0) (qC (.int 2))) (q1 gLen (q2 gIx (qVar 0) (qC (.int 1)))))) (eC (.int 2147483629))))
  (sSeq (sAsg 4 (e2 gAdd (e2 gMul (eVar 3) (e2 gAdd (eC (.int 69621)) (e2 gMul (eC (.int 2)) (eQ (q2 gIx (qVar 0) (qC (.int 2))))))) (eC (.int 30011))))
  (sSeq (sAsg 4 (e2 gMod (e2 gAdd (eVar 4) (e2 gMul (e2 gMul (eC (.int 48271)) (eQ (q2 gIx (qVar 0) (qC (.int 2))))) (eQ (q2 gIx (qVar 0) (qC (.int 2)))))) (eC (.int 2147483587))))
  (sRet (e2 gMod (e2 gFdiv (e2 gMod (e2 gMul (eVar 4) (eVar 4)) (eC (.int 2147483563))) (eC (.int 16))) (eVar 1))))))))
def F__law_draw : DFn := runF S__law_draw [(.r [(.l .s), (.l .s), .s]), .s] 3
def S__law_pick : Sf := (sRet (eItmG 1 (eCallL F__law_draw 0 0 (lCons eLend (lCons (eQ (q1 gLen (qVar 1))) lNil)))))
def F__law_pick : DFn := runF S__law_pick [(.r [(.l .s), (.l .s), .s]), (.l .s)] 0
def B__law_roster_1 : Sf := (sPost [7, 8] [1, 2, 3, 4, 5, 6, 7, 8]
  (sSeq (sAsg 8 (eTup (lCons (eCallL F__law_draw 0 0 (lCons eLend (lCons (eVar 3) lNil))) (lCons (eCallL F__law_draw 0 0 (lCons eLend (lCons (eVar 4) lNil))) lNil))))
  (sSeq (sIf (bAnd (bT (e2 gEq (eVar 5) (eC (.int 1)))) (bT (e2 gEq (eCallL F__law_draw 0 0 (lCons eLend (lCons (eC (.int 2)) lNil))) (eC (.int 0)))))
    (sAsg 8 (eTup (lCons (eC (.int 0)) (lCons (e2 gIx (eVar 8) (eC (.int 1))) lNil))))
    sNil)
  (sSeq (sIf (bAnd (bT (e2 gEq (eVar 5) (eC (.int 2)))) (bT (e2 gEq (eCallL F__law_draw 0 0 (lCons eLend (lCons (eC (.int 2)) lNil))) (eC (.int 0)))))
    (sAsg 8 (eTup (lCons (e2 gIx (eVar 8) (eC (.int 0))) (lCons (e2 gSub (eVar 4) (eC (.int 1))) lNil))))
    sNil)
  (sSeq (sIf (bAnd (bT (e2 gEq (eVar 5) (eC (.int 3)))) (bAnd (bQT (q2 gNe (qVar 6) (qC (.list [])))) (bT (e2 gEq (eCallL F__law_draw 0 0 (lCons eLend (lCons (eC (.int 3)) lNil))) (eC (.int 0))))))
    (sAsg 8 (eCallL2 F__law_pick 0 0 1 6 (lCons eLend (lCons eLend lNil))))
    sNil)
  (sDrop (eApp 6 (eVar 8))))))))
def S__law_roster : Sf := (sSeq (sPar 3 4 (lCons (e2 gAdd (eC (.int 1)) (eCallL F__law_draw 0 0 (lCons eLend (lCons (eVar 1) lNil)))) (lCons (e2 gAdd (eC (.int 1)) (eCallL F__law_draw 0 0 (lCons eLend (lCons (eVar 1) lNil)))) lNil)))
  (sSeq (sPar 5 6 (lCons (eCallL F__law_draw 0 0 (lCons eLend (lCons (eC (.int 4)) lNil))) (lCons (eLst lNil) lNil)))
  (sSeq (sFor (iFg [7, 8] (iR1 (eCallL F__law_draw 0 0 (lCons eLend (lCons (e2 gAdd (eVar 2) (eC (.int 1))) lNil))))) (gNm 7)
    B__law_roster_1)
  (sRet (eTup (lCons (eVar 3) (lCons (eVar 4) (lCons (e1 gTuple (eVar 6)) lNil))))))))
def F__law_roster : DFn := runF S__law_roster [(.r [(.l .s), (.l .s), .s]), .s, .s] 6
def E__law_list_text_1 : Ef := (e1 gStr (eVar 1))
def S__law_list_text : Sf := (sRet (eOrT (e2 gJoin (eC (.str ",")) (eLc (iSeq (eVar 0)) [1] (gNm 1) bYes E__law_list_text_1)) (eC (.str "-"))))
def F__law_list_text : DFn := runF S__law_list_text [.s] 1
def E__law_lists_text_1 : Ef := (eCall F__law_list_text (lCons (eVar 1) lNil))
def S__law_lists_text : Sf := (sRet (eOrT (e2 gJoin (eC (.str " ")) (eLc (iSeq (eVar 0)) [1] (gNm 1) bYes E__law_lists_text_1)) (eC (.str "none"))))
def F__law_lists_text : DFn := runF S__law_lists_text [.s] 1
def E__law_lists_1 : Ef := (e2 gAdd (eVar 3) (eCallL F__law_draw 0 0 (lCons eLend (lCons (eC (.int 41)) lNil))))
def B__law_lists_1 : Sf := (sPost [5, 6] [1, 2, 3, 4, 5, 6, 7]
  (sSeq (sAsg 6 (eLc (iR1 (eCallL F__law_draw 0 0 (lCons eLend (lCons (e2 gAdd (eVar 2) (eC (.int 1))) lNil)))) [7] (gNm 7) bYes E__law_lists_1))
  (sDrop (eApp 4 (eSl gSl (e1 gTuple (e1 gSortSet (eVar 6))) oNone (oSome (eC (.int 20))))))))
def S__law_lists : Sf := (sSeq (sAsg 3 (e2 gIx (eLst (lCons (eC (.int 0)) (lCons (eC (.int 0)) (lCons (eC (.int 7)) (lCons (e2 gSub (e2 gPow (eC (.int 10)) (eC (.int 6))) (eC (.int 40))) lNil))))) (eCallL F__law_draw 0 0 (lCons eLend (lCons (eC (.int 4)) lNil)))))
  (sSeq (sAsg 4 (eLst lNil))
  (sSeq (sFor (iFg [5, 6] (iSeq (e2 gIx (eVar 1) (eC (.int 2))))) (gNm 5)
    B__law_lists_1)
  (sRet (e1 gTuple (eVar 4))))))
def F__law_lists : DFn := runF S__law_lists [(.r [(.l .s), (.l .s), .s]), .s, .s] 5
def R__law_spoilt_1 : Sf := (sSeq (sAsg 6 (e2 gAdd (eVar 6) (eLst (lCons (e2 gAdd (eVar 1) (eC (.str " "))) (lCons (e2 gJoin (eC (.str " ")) (e2 gAdd (e2 gAdd (eSl gSl (eVar 4) oNone (oSome (eVar 5))) (eLst (lCons (eC (.str "none")) lNil))) (eSl gSl (eVar 4) (oSome (e2 gAdd (eVar 5) (eC (.int 1)))) oNone))) (lCons (e1 (gRep " " "  ") (eVar 1)) (lCons (e1 gBackS (eVar 1)) lNil)))))))
  (sRet (e2 gIx (eVar 6) (eCallL F__law_draw 0 0 (lCons eLend (lCons (eC (.int 12)) lNil))))))
def S__law_spoilt : Sf := (sSeq (sAsg 2 (eCallL F__law_draw 0 0 (lCons eLend (lCons (e2 gAdd (e1 gLen (eVar 1)) (eC (.int 1))) lNil))))
  (sSeq (sAsg 3 (e2 gIx (eC (.str " 0139-,:nx\n+_")) (eCallL F__law_draw 0 0 (lCons eLend (lCons (eC (.int 13)) lNil)))))
  (sSeq (sAsg 4 (e2 gSplit (eVar 1) (eC (.str " "))))
  (sSeq (sAsg 5 (eCallL F__law_draw 0 0 (lCons eLend (lCons (e1 gLen (eVar 4)) lNil))))
  (sSeq (sAsg 6 (eLst (lCons (e2 gAdd (e2 gAdd (eSl gSl (eVar 1) oNone (oSome (eVar 2))) (eVar 3)) (eSl gSl (eVar 1) (oSome (eVar 2)) oNone)) (lCons (e2 gAdd (e2 gAdd (eSl gSl (eVar 1) oNone (oSome (eVar 2))) (eVar 3)) (eSl gSl (eVar 1) (oSome (e2 gAdd (eVar 2) (eC (.int 1)))) oNone)) (lCons (e2 gAdd (eSl gSl (eVar 1) oNone (oSome (eVar 2))) (eSl gSl (eVar 1) (oSome (e2 gAdd (eVar 2) (eC (.int 1)))) oNone)) (lCons (eSl gSl (eVar 1) oNone (oSome (eVar 2))) lNil))))))
  (sSeq (sAsg 6 (e2 gAdd (eVar 6) (eLst (lCons (e2 gJoin (eC (.str " ")) (e2 gAdd (eSl gSl (eVar 4) oNone (oSome (eVar 5))) (eSl gSl (eVar 4) (oSome (e2 gAdd (eVar 5) (eC (.int 1)))) oNone))) (lCons (e2 gJoin (eC (.str " ")) (e2 gAdd (eSl gSl (eVar 4) oNone (oSome (e2 gAdd (eVar 5) (eC (.int 1))))) (eSl gSl (eVar 4) (oSome (eVar 5)) oNone))) (lCons (e2 gAdd (eVar 1) (eC (.str "\n"))) (lCons (e2 gAdd (eC (.str " ")) (eVar 1)) lNil)))))))
  R__law_spoilt_1))))))
def F__law_spoilt : DFn := runF S__law_spoilt [(.r [(.l .s), (.l .s), .s]), .s] 5
def S__law_odd : Sf := (sSeq (sAsg 1 (eLst (lCons (eC .none) (lCons (eC (.bool true)) (lCons (eC (.bool false)) (lCons (e1 gNeg (eC (.int 1))) (lCons (eC (.int 0)) (lCons (eC (.int 1)) (lCons (eC (.int 2)) (lCons (eC (.int 8)) (lCons (e2 gPow (eC (.int 10)) (eC (.int 6))) (lCons (e2 gAdd (e2 gPow (eC (.int 10)) (eC (.int 6))) (eC (.int 1))) (lCons (e2 gPow (eC (.int 10)) (eC (.int 29))) (lCons (eC (.str "")) (lCons (eC (.str "0")) (lCons (eC (.str "none")) (lCons (eTup lNil) (lCons (eLst lNil) (lCons (eC (.dict [])) (lCons (eTup (lCons (eC (.int 0)) lNil)) (lCons (eLst (lCons (eC (.int 0)) lNil)) lNil)))))))))))))))))))))
  (sRet (e2 gIx (e2 gAdd (eVar 1) (eLst (lCons (eTup (lCons (eC (.int 0)) (lCons (eC (.int 0)) lNil))) (lCons (eTup (lCons (eC (.int 0)) (lCons (eC (.int 1)) lNil))) (lCons (eTup (lCons (eTup (lCons (eC (.int 0)) (lCons (eC (.int 0)) lNil))) lNil)) (lCons (eTup (lCons (eC (.bool true)) lNil)) (lCons (eC (.dict [(.str "a", .int 1)])) lNil))))))) (eCallL F__law_draw 0 0 (lCons eLend (lCons (eC (.int 24)) lNil))))))
def F__law_odd : DFn := runF S__law_odd [(.r [(.l .s), (.l .s), .s])] 1
def S__law_same : Sf := (sRet (e2 gEq (e1 gRepr (eVar 0)) (e1 gRepr (eVar 1))))
def F__law_same : DFn := runF S__law_same [.s, .s] 0
def S_words_of_x : Sf := (sSeq (sIf (bNot (bOf (e1 (gIsa PyData.isStr) (eVar 0))))
    (sRet (e1 (gRz "BadText") (eTup (lCons (eC .none) lNil))))
    sNil)
  (sRet (e1 gOk (e2 gSplit (eVar 0) (eC (.str " "))))))
def F_words_of_x : DFn := runF S_words_of_x [.s] 0
def E_number_in_1 : Ef := (e2 gNotInS (eVar 1) (eC (.str "0123456789")))
def S_number_in : Sf := (sSeq (sIf (bOr (bT (e2 gEq (eVar 0) (eC (.str "")))) (bOr (bT (e2 gGt (e1 gLen (eVar 0)) (eC (.int 7)))) (bOf (e1 gAny (eLc (iChr (eVar 0)) [1] (gNm 1) bYes E_number_in_1)))))
    (sRet (eC .none))
    sNil)
  (sRet (eIf (bAnd (bT (e2 gEq (e2 gIx (eVar 0) (eC (.int 0))) (eC (.str "0")))) (bT (e2 gNe (eVar 0) (eC (.str "0"))))) (eC .none) (e1 gIntS (eVar 0)))))
def F_number_in : DFn := runF S_number_in [.s] 1
def E_numbers_in_1 : Ef := (eCall F_number_in (lCons (eVar 3) lNil))
def S_numbers_in : Sf := (sSeq (sAsg 2 (eLc (iSeq (e2 gSplit (eVar 0) (eVar 1))) [3] (gNm 3) bYes E_numbers_in_1))
  (sRet (eIf (bT (e2 gIn (eC .none) (eVar 2))) (eC .none) (e1 gTuple (eVar 2)))))
def F_numbers_in : DFn := runF S_numbers_in [.s, .s] 2
def S_is_number : Sf := (sRet (eAnd (e1 (gIsa PyData.isInt) (eVar 0)) (eAnd (eNotT (bOf (e1 (gIsa PyData.isBool) (eVar 0)))) (eChain gLe gLe (eVar 1) (eVar 0) (eVar 2)))))
def F_is_number : DFn := runF S_is_number [.s, .s, .s] 0
def S_is_hour : Sf := (sRet (eCall F_is_number (lCons (eVar 0) (lCons (eC (.int 0)) (lCons (eC (.int 1000000)) lNil)))))
def F_is_hour : DFn := runF S_is_hour [.s] 0
def E_is_ascending_1 : Ef := (e2 gLt (eVar 1) (eVar 2))
def S_is_ascending : Sf := (sRet (e1 gAll (eLc (iZp (eVar 0) (eSl gSl (eVar 0) (oSome (eC (.int 1))) oNone)) [1, 2] (gTp 2 (gsCons (gNm 1) (gsCons (gNm 2) gsNil))) bYes E_is_ascending_1)))
def F_is_ascending : DFn := runF S_is_ascending [.s] 2
def E_is_list_1 : Ef := (eCall F_is_hour (lCons (eVar 1) lNil))
def S_is_list : Sf := (sSeq (sIf (bOr (bNot (bOf (e1 (gIsa PyData.isTuple) (eVar 0)))) (bOr (bT (e2 gGt (e1 gLen (eVar 0)) (eC (.int 20)))) (bNot (bOf (e1 gAll (eLc (iSeq (eVar 0)) [1] (gNm 1) bYes E_is_list_1))))))
    (sRet (eC (.bool false)))
    sNil)
  (sRet (eCall F_is_ascending (lCons (eVar 0) lNil))))
def F_is_list : DFn := runF S_is_list [.s] 1
def S_list_in : Sf := (sSeq (sAsg 1 (eIf (bT (e2 gEq (eVar 0) (eC (.str "-")))) (eTup lNil) (eCall F_numbers_in (lCons (eVar 0) (lCons (eC (.str ",")) lNil)))))
  (sRet (eIf (bOf (eCall F_is_list (lCons (eVar 1) lNil))) (eVar 1) (eC .none))))
def F_list_in : DFn := runF S_list_in [.s] 1
def B_parse_lists_x_1 : Sf := (sPost [3, 4, 5] [0, 1, 2, 3, 4, 5]
  (sSeq (sAsg 5 (eCall F_list_in (lCons (eVar 4) lNil)))
  (sSeq (sIf (bOr (bT (e2 gIs (eVar 5) (eC .none))) (bT (e2 gEq (eVar 3) (eC (.int 16)))))
    (sRet (e1 (gRz "BadText") (eTup (lCons (eVar 3) lNil))))
    sNil)
  (sDrop (eApp 2 (eVar 5))))))
def S_parse_lists_x : Sf := (sSeq (sAsgE tb_words_of_x 1 (eCall F_words_of_x (lCons (eVar 0) lNil)))
  (sSeq (sIf (bT (e2 gEq (eVar 1) (eLst (lCons (eC (.str "none")) lNil))))
    (sRet (e1 gOk (eTup lNil)))
    sNil)
  (sSeq (sAsg 2 (eLst lNil))
  (sSeq (sFor (iFg [3, 4, 5] (iEn (eVar 1))) (gTp 2 (gsCons (gNm 3) (gsCons (gNm 4) gsNil)))
    B_parse_lists_x_1)
  (sRet (e1 gOk (e1 gTuple (eVar 2))))))))
def F_parse_lists_x : DFn := runF S_parse_lists_x [.s] 5
def rt__law_index_t1_BadText : List (Str × Bool) := [("BadText", true)]
def rt__law_index_t1_BadList_BadLists_BadRoster : List (Str × Bool) := [("BadText", false)]
def S__law_index : Sf := (sSeq (sAsg 1 (eC .none))
  (sSeq (sTryB tb__law_index_t1 2 (sAsgE1 tb__law_index_t1_parse_lists_x 1 (gLit "value") (eVar 0))
    (sSeq (sAsg 1 (eLst (lCons (eC (.str "other")) (lCons (eC .none) lNil))))
  (sIf (bAnd (bOf (e1 (gIsE rt__law_index_t1_BadText) (eVar 2))) (bNot (bOf (e1 (gIsE rt__law_index_t1_BadList_BadLists_BadRoster) (eVar 2)))))
    (sAsg 1 (eLst (lCons (eC (.str "wrong")) (lCons (e1 (gFldE tb__law_index_t1 "index") (eVar 2)) lNil))))
    sNil)))
  (sRet (eVar 1))))
def F__law_index : DFn := runF S__law_index [.s] 2
def T__law_number_in_1 : Bf := (bT (e2 gNotInS (eVar 1) (eC (.str "0123456789"))))
def E__law_number_in_1 : Ef := (eVar 1)
def S__law_number_in : Sf := (sSeq (sIf (bOr (bT (e2 gEq (eVar 0) (eC (.str "")))) (bOr (bT (e2 gGt (e1 gLen (eVar 0)) (eC (.int 7)))) (bT (e2 gNe (eLc (iChr (eVar 0)) [1] (gNm 1) T__law_number_in_1 E__law_number_in_1) (eLst lNil)))))
    (sRet (eC .none))
    sNil)
  (sRet (eIf (bAnd (bT (e2 gEq (e2 gIx (eVar 0) (eC (.int 0))) (eC (.str "0")))) (bT (e2 gNe (eVar 0) (eC (.str "0"))))) (eC .none) (e1 gIntS (eVar 0)))))
def F__law_number_in : DFn := runF S__law_number_in [.s] 1
def E__law_list_in_1 : Ef := (eCall F__law_number_in (lCons (eVar 3) lNil))
def T__law_list_in_1 : Bf := (bOr (bT (e2 gIs (eVar 4) (eC .none))) (bT (e2 gGt (eVar 4) (e2 gPow (eC (.int 10)) (eC (.int 6))))))
def E__law_list_in_2 : Ef := (eVar 4)
def T__law_list_in_2 : Bf := (bT (e2 gGe (e2 gIx (eVar 1) (e2 gSub (eVar 5) (eC (.int 1)))) (e2 gIx (eVar 1) (eVar 5))))
def E__law_list_in_3 : Ef := (eVar 5)
def S__law_list_in : Sf := (sSeq (sIf (bT (e2 gEq (eVar 0) (eC (.str "-"))))
    (sRet (eTup lNil))
    sNil)
  (sSeq (sAsg 1 (eLc (iSeq (e2 gSplit (eVar 0) (eC (.str ",")))) [3] (gNm 3) bYes E__law_list_in_1))
  (sSeq (sIf (bOr (bT (e2 gGt (e1 gLen (eVar 1)) (eC (.int 20)))) (bT (e2 gNe (eLc (iSeq (eVar 1)) [4] (gNm 4) T__law_list_in_1 E__law_list_in_2) (eLst lNil))))
    (sRet (eC .none))
    sNil)
  (sSeq (sAsg 2 (eLc (iR2 (eC (.int 1)) (e1 gLen (eVar 1))) [5] (gNm 5) T__law_list_in_2 E__law_list_in_3))
  (sRet (eIf (bT (e2 gEq (eVar 2) (eLst lNil))) (e1 gTuple (eVar 1)) (eC .none)))))))
def F__law_list_in : DFn := runF S__law_list_in [.s] 5
def E__law_due_1 : Ef := (eCall F__law_list_in (lCons (eVar 4) lNil))
def T__law_due_1 : Bf := (bOr (bT (e2 gIs (e2 gIx (eVar 2) (eVar 5)) (eC .none))) (bT (e2 gGe (eVar 5) (eC (.int 16)))))
def E__law_due_2 : Ef := (eVar 5)
def S__law_due : Sf := (sSeq (sIf (bNot (bOf (e1 (gIsa PyData.isStr) (eVar 0))))
    (sRet (eLst (lCons (eC (.str "wrong")) (lCons (eC .none) lNil))))
    sNil)
  (sSeq (sAsg 1 (e2 gSplit (eVar 0) (eC (.str " "))))
  (sSeq (sIf (bT (e2 gEq (eVar 1) (eLst (lCons (eC (.str "none")) lNil))))
    (sRet (eLst (lCons (eC (.str "value")) (lCons (eTup lNil) lNil))))
    sNil)
  (sSeq (sAsg 2 (eLc (iSeq (eVar 1)) [4] (gNm 4) bYes E__law_due_1))
  (sSeq (sAsg 3 (eLc (iR1 (e1 gLen (eVar 2))) [5] (gNm 5) T__law_due_1 E__law_due_2))
  (sRet (eIf (bT (e2 gEq (eVar 3) (eLst lNil))) (eLst (lCons (eC (.str "value")) (lCons (e1 gTuple (eVar 2)) lNil))) (eLst (lCons (eC (.str "wrong")) (lCons (e2 gIx (eVar 3) (eC (.int 0))) lNil))))))))))
def F__law_due : DFn := runF S__law_due [.s] 5
def E_law_1 : Ef := (e1 gStr (eVar 7))
def B_law_1 : Sf := (sPost [7, 8] [0, 1, 2, 3, 4, 5, 6, 7, 8, 9, 10]
  (sSeq (sAsg 8 (eCallL F__law_spoilt 0 1 (lCons eLend (lCons (eVar 5) lNil))))
  (sSeq (sIf (bT (e2 gEq (eCallL F__law_draw 0 1 (lCons eLend (lCons (eC (.int 3)) lNil))) (eC (.int 0))))
    (sAsg 8 (eCallL F__law_spoilt 0 1 (lCons eLend (lCons (eVar 8) lNil))))
    sNil)
  (sDrop (eApp 6 (eVar 8))))))
def B_law_2 : Sf := (sPost [8, 9] [0, 1, 2, 3, 4, 5, 6, 7, 8, 9, 10]
  (sSeq (sAsg 9 (e1 gRepr (eVar 8)))
  (sIf (bOr (bNot (bOf (eCall F__law_same (lCons (eCall F__law_index (lCons (eCall F_parse_lists_x (lCons (eVar 8) lNil)) lNil)) (lCons (eCall F__law_due (lCons (eVar 8) lNil)) lNil))))) (bT (e2 gNe (e1 gRepr (eVar 8)) (eVar 9))))
    (sRet (eC (.bool false)))
    sNil)))
def B_law_3 : Sf := (sPost [3, 4, 5, 6, 7, 8, 9] [0, 1, 2, 3, 4, 5, 6, 7, 8, 9, 10]
  (sSeq (sAsg 4 (eCallL F__law_roster 0 1 (lCons eLend (lCons (eC (.int 4)) (lCons (eC (.int 16)) lNil)))))
  (sSeq (sAsg 5 (eCall F__law_lists_text (lCons (eCallL F__law_lists 0 1 (lCons eLend (lCons (eVar 4) (lCons (eC (.int 12)) lNil)))) lNil)))
  (sSeq (sAsg 6 (eLst (lCons (eVar 5) (lCons (e2 gJoin (eC (.str " ")) (e2 gMul (eLst (lCons (eC (.str "-")) lNil)) (eC (.int 16)))) (lCons (e2 gJoin (eC (.str " ")) (e2 gMul (eLst (lCons (eC (.str "-")) lNil)) (eC (.int 17)))) (lCons (eVar 2) (lCons (e2 gAdd (eVar 2) (eC (.str ",20"))) (lCons (eC (.str "1000000")) (lCons (eC (.str "1000001")) (lCons (eC (.str "")) lNil))))))))))
  (sSeq (sAsg 6 (e2 gAdd (eVar 6) (eLst (lCons (eC (.str "none")) (lCons (eC (.str "none none")) (lCons (eC (.str "- none")) (lCons (eC (.str "5,6 none")) (lCons (eC (.str "6,5")) (lCons (eC (.str "5,5")) (lCons (eC (.str "05")) (lCons (eC (.str "5,")) (lCons (eC (.str ",5")) (lCons (eC (.str "-1")) (lCons (eC (.str "--")) lNil))))))))))))))
  (sSeq (sAsg 6 (e2 gAddL (eVar 6) (eLst (lCons (eC (.str "+5,6")) (lCons (eC (.str "1_0")) (lCons (eC (.str "5,+6")) (lCons (eC (.str "5 1_0")) lNil)))))))
  (sSeq (sFor (iFg [7, 8] (iR1 (eC (.int 12)))) (gNm 7)
    B_law_1)
  (sFor (iFg [8, 9] (iSeq (e2 gAdd (eVar 6) (eLst (lCons (eC .none) (lCons (eC (.int 0)) (lCons (eC (.bool true)) (lCons (eTup lNil) (lCons (eLst (lCons (eVar 5) lNil)) (lCons (eC (.dict [])) (lCons (eCallL F__law_odd 0 1 (lCons eLend lNil)) lNil))))))))))) (gNm 8)
    B_law_2))))))))
def S_law : Sf := (sSeq (sAsg 1 (eCallL F__law_state 0 0 (lCons eLend lNil)))
  (sSeq (sAsg 2 (e2 gJoin (eC (.str ",")) (eLc (iR1 (eC (.int 20))) [7] (gNm 7) bYes E_law_1)))
  (sSeq (sFor (iFg [3, 4, 5, 6, 7, 8, 9] (iR1 (eC (.int 6)))) (gNm 3)
    B_law_3)
  (sRet (eC (.bool true))))))
def F_law : DFn := runF S_law [.q] 10
end LK
namespace LK
open PySem L2 PySem.Spec DL
def C__law_state_1 (d : PyData) : Option (PyData) :=
(gAbs d).bind fun v2 =>
some v2
theorem C__law_state_1_eq (script cells cell : PyData) (xs : List PyData) : lcL [2] (gNm 2) bYes E__law_state_1 xs [script, cells, cell] = (mapS xs (C__law_state_1)).bind fun r => some (r, [script, cells, cell]) :=
  lc_map (vs := [2]) (gf := (gNm 2)) (ef := E__law_state_1) (C__law_state_1) (fun d => by simp -implicitDefEqProofs [E__law_state_1, C__law_state_1, ite_bind', ifB_bind, thenS_bind, Option.bind_assoc]) xs
def C__law_state_2 (d : PyData) : Option (Option PyData) :=
(gPow (.int 10) (.int 18)).bind fun v5 =>
(gGe d v5).bind fun v6 =>
(asB v6).bind fun v7 =>
if v7 = true then (some (some d)) else (some none)
theorem C__law_state_2_eq (script cells cell : PyData) (xs : List PyData) : lcL [2] (gNm 2) T__law_state_1 E__law_state_2 xs [script, cells, cell] = (filS xs (C__law_state_2)).bind fun r => some (r, [script, cells, cell]) :=
  lc_fil (vs := [2]) (gf := (gNm 2)) (tf := T__law_state_1) (ef := E__law_state_2) (C__law_state_2) (fun d => by simp -implicitDefEqProofs [T__law_state_1, E__law_state_2, C__law_state_2, ite_bind', ifB_bind, thenS_bind, Option.bind_assoc]) xs
def f__law_state (script : PyData) : Option PyData :=
(seqD script).bind fun v1 =>
(mapS v1 (C__law_state_1)).bind fun v3 =>
(seqD (.list v3)).bind fun v4 =>
(filS v4 (C__law_state_2)).bind fun v8 =>
(gLen (.list v3)).bind fun v9 =>
(gAdd v9 (.int 7)).bind fun v10 =>
(gAddL (.list v3) (.list [v10])).bind fun v11 =>
some (.list [(.list v8), v11, (.int 0)])
theorem f__law_state_eq (script : PyData) : F__law_state [script] = (f__law_state script).bind fun r => some (r, [script]) := by
  simp -implicitDefEqProofs [F__law_state, S__law_state, f__law_state, C__law_state_1_eq, C__law_state_2_eq, ite_bind', ifB_bind, thenS_bind, Option.bind_assoc]
def WL__law_draw_1 (s : PyData) : Option Bool :=
(gIx s (.int 0)).bind fun v11 =>
(gNe v11 (.list [])).bind fun v12 =>
(asB v12).bind fun v13 =>
some v13
def L__law_draw_1 (limit : PyData) (s : PyData) : Option (Out × PyData) :=
(itemD s (.int 0)).bind fun v1 =>
(itemD v1 (.int 0)).bind fun v2 =>
(gGt v2 (.int 0)).bind fun v3 =>
(asB v3).bind fun v4 =>
if v4 = true then ((gFdiv v2 limit).bind fun v5 =>
(itemD s (.int 0)).bind fun v6 =>
(gSet v6 (.int 0) v5).bind fun v7 =>
(gMod v2 limit).bind fun v8 =>
some (.rt v8, (setD s (.int 0) v7))) else ((itemD s (.int 0)).bind fun v9 =>
(gPopAt v9 (.int 0)).bind fun v10 =>
some (.nx, (setD s (.int 0) v10.2)))
theorem L__law_draw_1_eq (state_here limit cell mixed : PyData) (n : Nat) : whL W__law_draw_1 B__law_draw_1 n [state_here, limit, .none, cell, mixed] = (whR n (WL__law_draw_1) (L__law_draw_1 limit) state_here).bind fun r => thenS r (fun s' => some (.nx, [s', limit, .none, cell, mixed])) (fun d s' => some (.rt d, [s', .none, .none, .none, .none])) :=
  wh_ret (cf := W__law_draw_1) (sf := B__law_draw_1) (jr := [1, 2, 3, 4]) (fun s : PyData => [s, limit, .none, cell, mixed]) (WL__law_draw_1) (L__law_draw_1 limit) (fun s => by simp -implicitDefEqProofs [W__law_draw_1, WL__law_draw_1, ite_bind', ifB_bind, thenS_bind, Option.bind_assoc]) (fun s => by simp -implicitDefEqProofs [B__law_draw_1, L__law_draw_1, ite_bind', ifB_bind, thenS_bind, Option.bind_assoc]) n state_here
def f__law_draw (state_here limit : PyData) : Option (PyData × PyData) :=
(whR fuel (WL__law_draw_1) (L__law_draw_1 limit) state_here).bind fun v14 =>
thenS v14 (fun s15 =>
(gIx s15 (.int 2)).bind fun v16 =>
(grd (scD v16)).bind fun _ =>
(gAdd v16 (.int 1)).bind fun v17 =>
(gSet s15 (.int 2) v17).bind fun v18 =>
(itemD v18 (.int 1)).bind fun v19 =>
(gIx v18 (.int 2)).bind fun v20 =>
(gIx v18 (.int 1)).bind fun v21 =>
(gLen v21).bind fun v22 =>
(gMod v20 v22).bind fun v23 =>
(itemD v19 v23).bind fun v24 =>
(gMod v24 (.int 2147483629)).bind fun v25 =>
(gIx v18 (.int 2)).bind fun v26 =>
(grd (scD v26)).bind fun _ =>
(gMul (.int 2) v26).bind fun v27 =>
(gAdd (.int 69621) v27).bind fun v28 =>
(gMul v25 v28).bind fun v29 =>
(gAdd v29 (.int 30011)).bind fun v30 =>
(gIx v18 (.int 2)).bind fun v31 =>
(grd (scD v31)).bind fun _ =>
(gMul (.int 48271) v31).bind fun v32 =>
(gIx v18 (.int 2)).bind fun v33 =>
(grd (scD v33)).bind fun _ =>
(gMul v32 v33).bind fun v34 =>
(gAdd v30 v34).bind fun v35 =>
(gMod v35 (.int 2147483587)).bind fun v36 =>
(gMul v36 v36).bind fun v37 =>
(gMod v37 (.int 2147483563)).bind fun v38 =>
(gFdiv v38 (.int 16)).bind fun v39 =>
(gMod v39 limit).bind fun v40 =>
some (v40, v18)) (fun d42 s41 => some (d42, s41))
theorem f__law_draw_eq (state_here limit : PyData) : F__law_draw [state_here, limit] = (f__law_draw state_here limit).bind fun r => some (r.1, [r.2, limit]) := by
  simp -implicitDefEqProofs [F__law_draw, S__law_draw, f__law_draw, L__law_draw_1_eq, ite_bind', ifB_bind, thenS_bind, Option.bind_assoc]
def f__law_pick (state_here items : PyData) : Option (PyData × PyData × PyData) :=
(gLen items).bind fun v1 =>
(grd (scD v1)).bind fun _ =>
(f__law_draw state_here v1).bind fun v2 =>
(itemD items v2.1).bind fun v3 =>
some (v3, v2.2, items)
theorem f__law_pick_eq (state_here items : PyData) : F__law_pick [state_here, items] = (f__law_pick state_here items).bind fun r => some (r.1, [r.2.1, r.2.2]) := by
  simp -implicitDefEqProofs [F__law_pick, S__law_pick, f__law_pick, f__law_draw_eq, ite_bind', ifB_bind, thenS_bind, Option.bind_assoc]
def L__law_roster_1 (teachers groups kind : PyData) (d : PyData) (s : PyData × PyData) : Option (PyData × PyData) :=
(f__law_draw s.1 teachers).bind fun v9 =>
(f__law_draw v9.2 groups).bind fun v10 =>
(gEq kind (.int 1)).bind fun v11 =>
(asB v11).bind fun v12 =>
(if v12 = true then ((f__law_draw v10.2 (.int 2)).bind fun v13 =>
(gEq v13.1 (.int 0)).bind fun v14 =>
(asB v14).bind fun v15 =>
some (v15, v13.2)) else (some (false, v10.2))).bind fun v16 =>
(if v16.1 = true then ((gIx (.tuple [v9.1, v10.1]) (.int 1)).bind fun v17 =>
some (.tuple [(.int 0), v17])) else (some (.tuple [v9.1, v10.1]))).bind fun v18 =>
(gEq kind (.int 2)).bind fun v19 =>
(asB v19).bind fun v20 =>
(if v20 = true then ((f__law_draw v16.2 (.int 2)).bind fun v21 =>
(gEq v21.1 (.int 0)).bind fun v22 =>
(asB v22).bind fun v23 =>
some (v23, v21.2)) else (some (false, v16.2))).bind fun v24 =>
(if v24.1 = true then ((gIx v18 (.int 0)).bind fun v25 =>
(gSub groups (.int 1)).bind fun v26 =>
some (.tuple [v25, v26])) else (some v18)).bind fun v27 =>
(gEq kind (.int 3)).bind fun v28 =>
(asB v28).bind fun v29 =>
(if v29 = true then ((gNe s.2 (.list [])).bind fun v30 =>
(asB v30).bind fun v31 =>
(if v31 = true then ((f__law_draw v24.2 (.int 3)).bind fun v32 =>
(gEq v32.1 (.int 0)).bind fun v33 =>
(asB v33).bind fun v34 =>
some (v34, v32.2)) else (some (false, v24.2))).bind fun v35 =>
some (v35.1, v35.2)) else (some (false, v24.2))).bind fun v36 =>
(if v36.1 = true then ((f__law_pick v36.2 s.2).bind fun v37 =>
some (v37.2.1, v37.2.2, v37.1)) else (some (v36.2, s.2, v27))).bind fun v38 =>
(gApp v38.2.1 v38.2.2).bind fun lessons39 =>
some (v38.1, lessons39)
theorem L__law_roster_1_eq (state_here people most teachers groups kind lessons : PyData) (xs : List PyData) : forL (gNm 7) B__law_roster_1 xs [state_here, people, most, teachers, groups, kind, lessons, .none, .none] = (foldS xs (L__law_roster_1 teachers groups kind) (state_here, lessons)).bind fun r => some (.nx, [r.1, people, most, teachers, groups, kind, r.2, .none, .none]) :=
  for_fold (gf := (gNm 7)) (sf := B__law_roster_1) (fun s : PyData × PyData => [s.1, people, most, teachers, groups, kind, s.2, .none, .none]) (L__law_roster_1 teachers groups kind) (fun d s => by simp (maxSteps := 2000000) -implicitDefEqProofs [B__law_roster_1, L__law_roster_1, f__law_draw_eq, f__law_pick_eq, ite_bind', ifB_bind, thenS_bind, Option.bind_assoc]) xs (state_here, lessons)
def f__law_roster (state_here people most : PyData) : Option (PyData × PyData) :=
(f__law_draw state_here people).bind fun v1 =>
(gAdd (.int 1) v1.1).bind fun v2 =>
(f__law_draw v1.2 people).bind fun v3 =>
(gAdd (.int 1) v3.1).bind fun v4 =>
(f__law_draw v3.2 (.int 4)).bind fun v5 =>
(gAdd most (.int 1)).bind fun v6 =>
(f__law_draw v5.2 v6).bind fun v7 =>
(rng1 v7.1).bind fun v8 =>
(foldS v8 (L__law_roster_1 v2 v4 v5.1) (v7.2, (.list []))).bind fun v40 =>
(gTuple v40.2).bind fun v41 =>
some ((.tuple [v2, v4, v41]), v40.1)
theorem f__law_roster_eq (state_here people most : PyData) : F__law_roster [state_here, people, most] = (f__law_roster state_here people most).bind fun r => some (r.1, [r.2, people, most]) := by
  simp -implicitDefEqProofs [F__law_roster, S__law_roster, f__law_roster, L__law_roster_1_eq, f__law_draw_eq, f__law_pick_eq, ite_bind', ifB_bind, thenS_bind, Option.bind_assoc]
def C__law_list_text_1 (d : PyData) : Option (PyData) :=
(gStr d).bind fun v2 =>
some v2
theorem C__law_list_text_1_eq (hours hour : PyData) (xs : List PyData) : lcL [1] (gNm 1) bYes E__law_list_text_1 xs [hours, hour] = (mapS xs (C__law_list_text_1)).bind fun r => some (r, [hours, hour]) :=
  lc_map (vs := [1]) (gf := (gNm 1)) (ef := E__law_list_text_1) (C__law_list_text_1) (fun d => by simp -implicitDefEqProofs [E__law_list_text_1, C__law_list_text_1, ite_bind', ifB_bind, thenS_bind, Option.bind_assoc]) xs
def f__law_list_text (hours : PyData) : Option PyData :=
(seqD hours).bind fun v1 =>
(mapS v1 (C__law_list_text_1)).bind fun v3 =>
(gJoin (.str ",") (.list v3)).bind fun v4 =>
(gTruth v4).bind fun v5 =>
(if v5 = true then (some v4) else (some (.str "-"))).bind fun v6 =>
some v6
theorem f__law_list_text_eq (hours : PyData) : F__law_list_text [hours] = (f__law_list_text hours).bind fun r => some (r, [hours]) := by
  simp -implicitDefEqProofs [F__law_list_text, S__law_list_text, f__law_list_text, C__law_list_text_1_eq, ite_bind', ifB_bind, thenS_bind, Option.bind_assoc]
def C__law_lists_text_1 (d : PyData) : Option (PyData) :=
(f__law_list_text d).bind fun v2 =>
some v2
theorem C__law_lists_text_1_eq (lists_here hours : PyData) (xs : List PyData) : lcL [1] (gNm 1) bYes E__law_lists_text_1 xs [lists_here, hours] = (mapS xs (C__law_lists_text_1)).bind fun r => some (r, [lists_here, hours]) :=
  lc_map (vs := [1]) (gf := (gNm 1)) (ef := E__law_lists_text_1) (C__law_lists_text_1) (fun d => by simp -implicitDefEqProofs [E__law_lists_text_1, C__law_lists_text_1, f__law_list_text_eq, ite_bind', ifB_bind, thenS_bind, Option.bind_assoc]) xs
def f__law_lists_text (lists_here : PyData) : Option PyData :=
(seqD lists_here).bind fun v1 =>
(mapS v1 (C__law_lists_text_1)).bind fun v3 =>
(gJoin (.str " ") (.list v3)).bind fun v4 =>
(gTruth v4).bind fun v5 =>
(if v5 = true then (some v4) else (some (.str "none"))).bind fun v6 =>
some v6
theorem f__law_lists_text_eq (lists_here : PyData) : F__law_lists_text [lists_here] = (f__law_lists_text lists_here).bind fun r => some (r, [lists_here]) := by
  simp -implicitDefEqProofs [F__law_lists_text, S__law_lists_text, f__law_lists_text, C__law_lists_text_1_eq, f__law_list_text_eq, ite_bind', ifB_bind, thenS_bind, Option.bind_assoc]
def C__law_lists_1 (low : PyData) (d : PyData) (s : PyData) : Option (PyData × PyData) :=
(f__law_draw s (.int 41)).bind fun v10 =>
(gAdd low v10.1).bind fun v11 =>
some (v11, v10.2)
theorem C__law_lists_1_eq (state_here roster_here most low found lesson some_ k : PyData) (xs : List PyData) : lcL [7] (gNm 7) bYes E__law_lists_1 xs [state_here, roster_here, most, low, found, lesson, some_, k] = (mapE xs (C__law_lists_1 low) state_here).bind fun r => some (r.1, [r.2, roster_here, most, low, found, lesson, some_, k]) :=
  lc_mapE (vs := [7]) (gf := (gNm 7)) (ef := E__law_lists_1) (fun s : PyData => [s, roster_here, most, low, found, lesson, some_, k]) (C__law_lists_1 low) (fun d s => by simp -implicitDefEqProofs [E__law_lists_1, C__law_lists_1, f__law_draw_eq, ite_bind', ifB_bind, thenS_bind, Option.bind_assoc]) xs state_here
def L__law_lists_1 (most low : PyData) (d : PyData) (s : PyData × PyData) : Option (PyData × PyData) :=
(gAdd most (.int 1)).bind fun v7 =>
(f__law_draw s.1 v7).bind fun v8 =>
(rng1 v8.1).bind fun v9 =>
(mapE v9 (C__law_lists_1 low) v8.2).bind fun v12 =>
(gSortSet (.list v12.1)).bind fun v13 =>
(gTuple v13).bind fun v14 =>
(prt (.int 20)).bind fun v15 =>
(gSl v14 none v15).bind fun v16 =>
(gApp s.2 v16).bind fun found17 =>
some (v12.2, found17)
theorem L__law_lists_1_eq (state_here roster_here most low found k : PyData) (xs : List PyData) : forL (gNm 5) B__law_lists_1 xs [state_here, roster_here, most, low, found, .none, .none, k] = (foldS xs (L__law_lists_1 most low) (state_here, found)).bind fun r => some (.nx, [r.1, roster_here, most, low, r.2, .none, .none, k]) :=
  for_fold (gf := (gNm 5)) (sf := B__law_lists_1) (fun s : PyData × PyData => [s.1, roster_here, most, low, s.2, .none, .none, k]) (L__law_lists_1 most low) (fun d s => by simp (maxSteps := 2000000) -implicitDefEqProofs [B__law_lists_1, L__law_lists_1, C__law_lists_1_eq, f__law_draw_eq, ite_bind', ifB_bind, thenS_bind, Option.bind_assoc]) xs (state_here, found)
def f__law_lists (state_here roster_here most : PyData) : Option (PyData × PyData) :=
(gPow (.int 10) (.int 6)).bind fun v1 =>
(gSub v1 (.int 40)).bind fun v2 =>
(f__law_draw state_here (.int 4)).bind fun v3 =>
(gIx (.list [(.int 0), (.int 0), (.int 7), v2]) v3.1).bind fun v4 =>
(gIx roster_here (.int 2)).bind fun v5 =>
(seqD v5).bind fun v6 =>
(foldS v6 (L__law_lists_1 most v4) (v3.2, (.list []))).bind fun v18 =>
(gTuple v18.2).bind fun v19 =>
some (v19, v18.1)
theorem f__law_lists_eq (state_here roster_here most : PyData) : F__law_lists [state_here, roster_here, most] = (f__law_lists state_here roster_here most).bind fun r => some (r.1, [r.2, roster_here, most]) := by
  simp -implicitDefEqProofs [F__law_lists, S__law_lists, f__law_lists, L__law_lists_1_eq, f__law_draw_eq, ite_bind', ifB_bind, thenS_bind, Option.bind_assoc]
def K__law_spoilt_1 (state_here text words k some_ : PyData) : Option (PyData × PyData) :=
(gAdd text (.str " ")).bind fun v47 =>
(prt k).bind fun v48 =>
(gSl words none v48).bind fun v49 =>
(gAdd v49 (.list [(.str "none")])).bind fun v50 =>
(gAdd k (.int 1)).bind fun v51 =>
(prt v51).bind fun v52 =>
(gSl words v52 none).bind fun v53 =>
(gAdd v50 v53).bind fun v54 =>
(gJoin (.str " ") v54).bind fun v55 =>
((gRep " " "  ") text).bind fun v56 =>
(gBackS text).bind fun v57 =>
(gAdd some_ (.list [v47, v55, v56, v57])).bind fun v58 =>
(f__law_draw state_here (.int 12)).bind fun v59 =>
(gIx v58 v59.1).bind fun v60 =>
some (v60, v59.2)
theorem K__law_spoilt_1_eq (state_here text at_ sign words k some_ i0' i1' : PyData) : ((R__law_spoilt_1 [state_here, text, at_, sign, words, k, some_]).bind fun p => retR [(.r [(.l .s), (.l .s), .s]), .s] [i0', i1'] p) = (K__law_spoilt_1 state_here text words k some_).bind fun r => some (r.1, [r.2, i1']) := by
  simp -implicitDefEqProofs [R__law_spoilt_1, K__law_spoilt_1, f__law_draw_eq, ite_bind', ifB_bind, thenS_bind, Option.bind_assoc]
def f__law_spoilt (state_here text : PyData) : Option (PyData × PyData) :=
(gLen text).bind fun v1 =>
(gAdd v1 (.int 1)).bind fun v2 =>
(f__law_draw state_here v2).bind fun v3 =>
(f__law_draw v3.2 (.int 13)).bind fun v4 =>
(gIx (.str " 0139-,:nx\n+_") v4.1).bind fun v5 =>
(gSplit text (.str " ")).bind fun v6 =>
(gLen v6).bind fun v7 =>
(f__law_draw v4.2 v7).bind fun v8 =>
(prt v3.1).bind fun v9 =>
(gSl text none v9).bind fun v10 =>
(gAdd v10 v5).bind fun v11 =>
(prt v3.1).bind fun v12 =>
(gSl text v12 none).bind fun v13 =>
(gAdd v11 v13).bind fun v14 =>
(prt v3.1).bind fun v15 =>
(gSl text none v15).bind fun v16 =>
(gAdd v16 v5).bind fun v17 =>
(gAdd v3.1 (.int 1)).bind fun v18 =>
(prt v18).bind fun v19 =>
(gSl text v19 none).bind fun v20 =>
(gAdd v17 v20).bind fun v21 =>
(prt v3.1).bind fun v22 =>
(gSl text none v22).bind fun v23 =>
(gAdd v3.1 (.int 1)).bind fun v24 =>
(prt v24).bind fun v25 =>
(gSl text v25 none).bind fun v26 =>
(gAdd v23 v26).bind fun v27 =>
(prt v3.1).bind fun v28 =>
(gSl text none v28).bind fun v29 =>
(prt v8.1).bind fun v30 =>
(gSl v6 none v30).bind fun v31 =>
(gAdd v8.1 (.int 1)).bind fun v32 =>
(prt v32).bind fun v33 =>
(gSl v6 v33 none).bind fun v34 =>
(gAdd v31 v34).bind fun v35 =>
(gJoin (.str " ") v35).bind fun v36 =>
(gAdd v8.1 (.int 1)).bind fun v37 =>
(prt v37).bind fun v38 =>
(gSl v6 none v38).bind fun v39 =>
(prt v8.1).bind fun v40 =>
(gSl v6 v40 none).bind fun v41 =>
(gAdd v39 v41).bind fun v42 =>
(gJoin (.str " ") v42).bind fun v43 =>
(gAdd text (.str "\n")).bind fun v44 =>
(gAdd (.str " ") text).bind fun v45 =>
(gAdd (.list [v14, v21, v27, v29]) (.list [v36, v43, v44, v45])).bind fun v46 =>
K__law_spoilt_1 v8.2 text v6 v8.1 v46
theorem f__law_spoilt_eq (state_here text : PyData) : F__law_spoilt [state_here, text] = (f__law_spoilt state_here text).bind fun r => some (r.1, [r.2, text]) := by
  simp -implicitDefEqProofs [F__law_spoilt, S__law_spoilt, f__law_spoilt, K__law_spoilt_1_eq, f__law_draw_eq, ite_bind', ifB_bind, thenS_bind, Option.bind_assoc]
def f__law_odd (state_here : PyData) : Option (PyData × PyData) :=
(gNeg (.int 1)).bind fun v1 =>
(gPow (.int 10) (.int 6)).bind fun v2 =>
(gPow (.int 10) (.int 6)).bind fun v3 =>
(gAdd v3 (.int 1)).bind fun v4 =>
(gPow (.int 10) (.int 29)).bind fun v5 =>
(gAdd (.list [.none, (.bool true), (.bool false), v1, (.int 0), (.int 1), (.int 2), (.int 8), v2, v4, v5, (.str ""), (.str "0"), (.str "none"), (.tuple []), (.list []), (.dict []), (.tuple [(.int 0)]), (.list [(.int 0)])]) (.list [(.tuple [(.int 0), (.int 0)]), (.tuple [(.int 0), (.int 1)]), (.tuple [(.tuple [(.int 0), (.int 0)])]), (.tuple [(.bool true)]), (.dict [(.str "a", .int 1)])])).bind fun v6 =>
(f__law_draw state_here (.int 24)).bind fun v7 =>
(gIx v6 v7.1).bind fun v8 =>
some (v8, v7.2)
theorem f__law_odd_eq (state_here : PyData) : F__law_odd [state_here] = (f__law_odd state_here).bind fun r => some (r.1, [r.2]) := by
  simp -implicitDefEqProofs [F__law_odd, S__law_odd, f__law_odd, f__law_draw_eq, ite_bind', ifB_bind, thenS_bind, Option.bind_assoc]
def f__law_same (found due_here : PyData) : Option PyData :=
(gRepr found).bind fun v1 =>
(gRepr due_here).bind fun v2 =>
(gEq v1 v2).bind fun v3 =>
some v3
theorem f__law_same_eq (found due_here : PyData) : F__law_same [found, due_here] = (f__law_same found due_here).bind fun r => some (r, [found, due_here]) := by
  simp -implicitDefEqProofs [F__law_same, S__law_same, f__law_same, ite_bind', ifB_bind, thenS_bind, Option.bind_assoc]
def f_words_of_x (value : PyData) : Option PyData :=
((gIsa PyData.isStr) value).bind fun v1 =>
(gTruth v1).bind fun v2 =>
if (!v2) = true then (((gRz "BadText") (.tuple [.none])).bind fun v3 =>
some v3) else ((gSplit value (.str " ")).bind fun v4 =>
(gOk v4).bind fun v5 =>
some v5)
theorem f_words_of_x_eq (value : PyData) : F_words_of_x [value] = (f_words_of_x value).bind fun r => some (r, [value]) := by
  simp -implicitDefEqProofs [F_words_of_x, S_words_of_x, f_words_of_x, ite_bind', ifB_bind, thenS_bind, Option.bind_assoc]
def C_number_in_1 (d : PyData) : Option (PyData) :=
(gNotInS d (.str "0123456789")).bind fun v7 =>
some v7
theorem C_number_in_1_eq (word digit : PyData) (xs : List PyData) : lcL [1] (gNm 1) bYes E_number_in_1 xs [word, digit] = (mapS xs (C_number_in_1)).bind fun r => some (r, [word, digit]) :=
  lc_map (vs := [1]) (gf := (gNm 1)) (ef := E_number_in_1) (C_number_in_1) (fun d => by simp -implicitDefEqProofs [E_number_in_1, C_number_in_1, ite_bind', ifB_bind, thenS_bind, Option.bind_assoc]) xs
def f_number_in (word : PyData) : Option PyData :=
(gEq word (.str "")).bind fun v1 =>
(asB v1).bind fun v2 =>
(if v2 = true then (some true) else ((gLen word).bind fun v3 =>
(gGt v3 (.int 7)).bind fun v4 =>
(asB v4).bind fun v5 =>
(if v5 = true then (some true) else ((gChr word).bind fun v6 =>
(mapS v6 (C_number_in_1)).bind fun v8 =>
(gAny (.list v8)).bind fun v9 =>
(gTruth v9).bind fun v10 =>
some v10)).bind fun v11 =>
some v11)).bind fun v12 =>
if v12 = true then (some .none) else ((gIx word (.int 0)).bind fun v13 =>
(gEq v13 (.str "0")).bind fun v14 =>
(asB v14).bind fun v15 =>
(if v15 = true then ((gNe word (.str "0")).bind fun v16 =>
(asB v16).bind fun v17 =>
some v17) else (some false)).bind fun v18 =>
(if v18 = true then (some .none) else ((gIntS word).bind fun v19 =>
some v19)).bind fun v20 =>
some v20)
theorem f_number_in_eq (word : PyData) : F_number_in [word] = (f_number_in word).bind fun r => some (r, [word]) := by
  simp -implicitDefEqProofs [F_number_in, S_number_in, f_number_in, C_number_in_1_eq, ite_bind', ifB_bind, thenS_bind, Option.bind_assoc]
def C_numbers_in_1 (d : PyData) : Option (PyData) :=
(f_number_in d).bind fun v3 =>
some v3
theorem C_numbers_in_1_eq (word mark numbers part : PyData) (xs : List PyData) : lcL [3] (gNm 3) bYes E_numbers_in_1 xs [word, mark, numbers, part] = (mapS xs (C_numbers_in_1)).bind fun r => some (r, [word, mark, numbers, part]) :=
  lc_map (vs := [3]) (gf := (gNm 3)) (ef := E_numbers_in_1) (C_numbers_in_1) (fun d => by simp -implicitDefEqProofs [E_numbers_in_1, C_numbers_in_1, f_number_in_eq, ite_bind', ifB_bind, thenS_bind, Option.bind_assoc]) xs
def f_numbers_in (word mark : PyData) : Option PyData :=
(gSplit word mark).bind fun v1 =>
(seqD v1).bind fun v2 =>
(mapS v2 (C_numbers_in_1)).bind fun v4 =>
(gIn .none (.list v4)).bind fun v5 =>
(asB v5).bind fun v6 =>
(if v6 = true then (some .none) else ((gTuple (.list v4)).bind fun v7 =>
some v7)).bind fun v8 =>
some v8
theorem f_numbers_in_eq (word mark : PyData) : F_numbers_in [word, mark] = (f_numbers_in word mark).bind fun r => some (r, [word, mark]) := by
  simp -implicitDefEqProofs [F_numbers_in, S_numbers_in, f_numbers_in, C_numbers_in_1_eq, f_number_in_eq, ite_bind', ifB_bind, thenS_bind, Option.bind_assoc]
def f_is_number (value low high : PyData) : Option PyData :=
((gIsa PyData.isInt) value).bind fun v1 =>
(ifB v1 ((((gIsa PyData.isBool) value).bind fun v2 =>
(gTruth v2).bind fun v3 =>
(ifB (.bool (!v3)) (((gLe low value).bind fun v4 =>
(ifB v4 (((gLe value high).bind fun v5 =>
some v5)) ((some (.bool false)))).bind fun v6 =>
some v6)) ((some (.bool false)))).bind fun v7 =>
some v7)) ((some (.bool false)))).bind fun v8 =>
some v8
theorem f_is_number_eq (value low high : PyData) : F_is_number [value, low, high] = (f_is_number value low high).bind fun r => some (r, [value, low, high]) := by
  simp -implicitDefEqProofs [F_is_number, S_is_number, f_is_number, ite_bind', ifB_bind, thenS_bind, Option.bind_assoc]
def f_is_hour (value : PyData) : Option PyData :=
(f_is_number value (.int 0) (.int 1000000)).bind fun v1 =>
some v1
theorem f_is_hour_eq (value : PyData) : F_is_hour [value] = (f_is_hour value).bind fun r => some (r, [value]) := by
  simp -implicitDefEqProofs [F_is_hour, S_is_hour, f_is_hour, f_is_number_eq, ite_bind', ifB_bind, thenS_bind, Option.bind_assoc]
def C_is_ascending_1 (d : PyData) : Option (PyData) :=
(un2 d).bind fun v4 =>
(gLt v4.1 v4.2).bind fun v5 =>
some v5
theorem C_is_ascending_1_eq (values one other : PyData) (xs : List PyData) : lcL [1, 2] (gTp 2 (gsCons (gNm 1) (gsCons (gNm 2) gsNil))) bYes E_is_ascending_1 xs [values, one, other] = (mapS xs (C_is_ascending_1)).bind fun r => some (r, [values, one, other]) :=
  lc_map (vs := [1, 2]) (gf := (gTp 2 (gsCons (gNm 1) (gsCons (gNm 2) gsNil)))) (ef := E_is_ascending_1) (C_is_ascending_1) (fun d => by simp -implicitDefEqProofs [E_is_ascending_1, C_is_ascending_1, ite_bind', ifB_bind, thenS_bind, Option.bind_assoc]) xs
def f_is_ascending (values : PyData) : Option PyData :=
(prt (.int 1)).bind fun v1 =>
(gSl values v1 none).bind fun v2 =>
(zipS values v2).bind fun v3 =>
(mapS v3 (C_is_ascending_1)).bind fun v6 =>
(gAll (.list v6)).bind fun v7 =>
some v7
theorem f_is_ascending_eq (values : PyData) : F_is_ascending [values] = (f_is_ascending values).bind fun r => some (r, [values]) := by
  simp -implicitDefEqProofs [F_is_ascending, S_is_ascending, f_is_ascending, C_is_ascending_1_eq, ite_bind', ifB_bind, thenS_bind, Option.bind_assoc]
def C_is_list_1 (d : PyData) : Option (PyData) :=
(f_is_hour d).bind fun v7 =>
some v7
theorem C_is_list_1_eq (value hour : PyData) (xs : List PyData) : lcL [1] (gNm 1) bYes E_is_list_1 xs [value, hour] = (mapS xs (C_is_list_1)).bind fun r => some (r, [value, hour]) :=
  lc_map (vs := [1]) (gf := (gNm 1)) (ef := E_is_list_1) (C_is_list_1) (fun d => by simp -implicitDefEqProofs [E_is_list_1, C_is_list_1, f_is_hour_eq, ite_bind', ifB_bind, thenS_bind, Option.bind_assoc]) xs
def f_is_list (value : PyData) : Option PyData :=
((gIsa PyData.isTuple) value).bind fun v1 =>
(gTruth v1).bind fun v2 =>
(if (!v2) = true then (some true) else ((gLen value).bind fun v3 =>
(gGt v3 (.int 20)).bind fun v4 =>
(asB v4).bind fun v5 =>
(if v5 = true then (some true) else ((seqD value).bind fun v6 =>
(mapS v6 (C_is_list_1)).bind fun v8 =>
(gAll (.list v8)).bind fun v9 =>
(gTruth v9).bind fun v10 =>
some (!v10))).bind fun v11 =>
some v11)).bind fun v12 =>
if v12 = true then (some (.bool false)) else ((f_is_ascending value).bind fun v13 =>
some v13)
theorem f_is_list_eq (value : PyData) : F_is_list [value] = (f_is_list value).bind fun r => some (r, [value]) := by
  simp -implicitDefEqProofs [F_is_list, S_is_list, f_is_list, C_is_list_1_eq, f_is_hour_eq, f_is_ascending_eq, ite_bind', ifB_bind, thenS_bind, Option.bind_assoc]
def f_list_in (word : PyData) : Option PyData :=
(gEq word (.str "-")).bind fun v1 =>
(asB v1).bind fun v2 =>
(if v2 = true then (some (.tuple [])) else ((f_numbers_in word (.str ",")).bind fun v3 =>
some v3)).bind fun v4 =>
(f_is_list v4).bind fun v5 =>
(gTruth v5).bind fun v6 =>
(if v6 = true then (some v4) else (some .none)).bind fun v7 =>
some v7
theorem f_list_in_eq (word : PyData) : F_list_in [word] = (f_list_in word).bind fun r => some (r, [word]) := by
  simp -implicitDefEqProofs [F_list_in, S_list_in, f_list_in, f_numbers_in_eq, f_is_list_eq, ite_bind', ifB_bind, thenS_bind, Option.bind_assoc]
def L_parse_lists_x_1 (d : PyData) (s : PyData) : Option (Out × PyData) :=
(un2 d).bind fun v9 =>
(f_list_in v9.2).bind fun v10 =>
(gIs v10 .none).bind fun v11 =>
(asB v11).bind fun v12 =>
(if v12 = true then (some true) else ((gEq v9.1 (.int 16)).bind fun v13 =>
(asB v13).bind fun v14 =>
some v14)).bind fun v15 =>
if v15 = true then (((gRz "BadText") (.tuple [v9.1])).bind fun v16 =>
some (.rt v16, s)) else ((gApp s v10).bind fun lists17 =>
some (.nx, lists17))
theorem L_parse_lists_x_1_eq (value words lists : PyData) (xs : List PyData) : forL (gTp 2 (gsCons (gNm 3) (gsCons (gNm 4) gsNil))) B_parse_lists_x_1 xs [value, words, lists, .none, .none, .none] = (forS xs (L_parse_lists_x_1) lists).bind fun r => thenS r (fun s' => some (.nx, [value, words, s', .none, .none, .none])) (fun d s' => some (.rt d, [.none, .none, .none, .none, .none, .none])) :=
  for_ret (gf := (gTp 2 (gsCons (gNm 3) (gsCons (gNm 4) gsNil)))) (sf := B_parse_lists_x_1) (jr := [0, 1, 2, 3, 4, 5]) (fun s : PyData => [value, words, s, .none, .none, .none]) (L_parse_lists_x_1) (fun d s => by simp (maxSteps := 2000000) -implicitDefEqProofs [B_parse_lists_x_1, L_parse_lists_x_1, f_list_in_eq, ite_bind', ifB_bind, thenS_bind, Option.bind_assoc]) xs lists
def f_parse_lists_x (value : PyData) : Option PyData :=
(f_words_of_x value).bind fun v1 =>
(gIsOk tb_words_of_x v1).bind fun v2 =>
(asB v2).bind fun v3 =>
if v3 = true then ((gUn v1).bind fun v4 =>
(gEq v4 (.list [(.str "none")])).bind fun v5 =>
(asB v5).bind fun v6 =>
if v6 = true then ((gOk (.tuple [])).bind fun v7 =>
some v7) else ((gEn v4).bind fun v8 =>
(forS v8 (L_parse_lists_x_1) (.list [])).bind fun v18 =>
thenS v18 (fun s19 =>
(gTuple s19).bind fun v20 =>
(gOk v20).bind fun v21 =>
some v21) (fun d23 s22 => some d23))) else (some v1)
theorem f_parse_lists_x_eq (value : PyData) : F_parse_lists_x [value] = (f_parse_lists_x value).bind fun r => some (r, [value]) := by
  simp -implicitDefEqProofs [F_parse_lists_x, S_parse_lists_x, f_parse_lists_x, L_parse_lists_x_1_eq, f_words_of_x_eq, f_list_in_eq, ite_bind', ifB_bind, thenS_bind, Option.bind_assoc]
def f__law_index (call : PyData) : Option PyData :=
(gIsOk tb__law_index_t1_parse_lists_x call).bind fun v1 =>
(asB v1).bind fun v2 =>
if v2 = true then ((gUn call).bind fun v3 =>
((gLit "value") v3).bind fun v4 =>
some v4) else ((gIsOk tb__law_index_t1 call).bind fun v5 =>
(asB v5).bind fun v6 =>
if v6 = true then ((gUn call).bind fun v7 =>
some v7) else (((gIsE rt__law_index_t1_BadText) call).bind fun v8 =>
(gTruth v8).bind fun v9 =>
(if v9 = true then (((gIsE rt__law_index_t1_BadList_BadLists_BadRoster) call).bind fun v10 =>
(gTruth v10).bind fun v11 =>
some (!v11)) else (some false)).bind fun v12 =>
(if v12 = true then (((gFldE tb__law_index_t1 "index") call).bind fun v13 =>
some (.list [(.str "wrong"), v13])) else (some (.list [(.str "other"), .none]))).bind fun v14 =>
some v14))
theorem f__law_index_eq (call : PyData) : F__law_index [call] = (f__law_index call).bind fun r => some (r, [call]) := by
  simp -implicitDefEqProofs [F__law_index, S__law_index, f__law_index, ite_bind', ifB_bind, thenS_bind, Option.bind_assoc]
def C__law_number_in_1 (d : PyData) : Option (Option PyData) :=
(gNotInS d (.str "0123456789")).bind fun v7 =>
(asB v7).bind fun v8 =>
if v8 = true then (some (some d)) else (some none)
theorem C__law_number_in_1_eq (word sign : PyData) (xs : List PyData) : lcL [1] (gNm 1) T__law_number_in_1 E__law_number_in_1 xs [word, sign] = (filS xs (C__law_number_in_1)).bind fun r => some (r, [word, sign]) :=
  lc_fil (vs := [1]) (gf := (gNm 1)) (tf := T__law_number_in_1) (ef := E__law_number_in_1) (C__law_number_in_1) (fun d => by simp -implicitDefEqProofs [T__law_number_in_1, E__law_number_in_1, C__law_number_in_1, ite_bind', ifB_bind, thenS_bind, Option.bind_assoc]) xs
def f__law_number_in (word : PyData) : Option PyData :=
(gEq word (.str "")).bind fun v1 =>
(asB v1).bind fun v2 =>
(if v2 = true then (some true) else ((gLen word).bind fun v3 =>
(gGt v3 (.int 7)).bind fun v4 =>
(asB v4).bind fun v5 =>
(if v5 = true then (some true) else ((gChr word).bind fun v6 =>
(filS v6 (C__law_number_in_1)).bind fun v9 =>
(gNe (.list v9) (.list [])).bind fun v10 =>
(asB v10).bind fun v11 =>
some v11)).bind fun v12 =>
some v12)).bind fun v13 =>
if v13 = true then (some .none) else ((gIx word (.int 0)).bind fun v14 =>
(gEq v14 (.str "0")).bind fun v15 =>
(asB v15).bind fun v16 =>
(if v16 = true then ((gNe word (.str "0")).bind fun v17 =>
(asB v17).bind fun v18 =>
some v18) else (some false)).bind fun v19 =>
(if v19 = true then (some .none) else ((gIntS word).bind fun v20 =>
some v20)).bind fun v21 =>
some v21)
theorem f__law_number_in_eq (word : PyData) : F__law_number_in [word] = (f__law_number_in word).bind fun r => some (r, [word]) := by
  simp -implicitDefEqProofs [F__law_number_in, S__law_number_in, f__law_number_in, C__law_number_in_1_eq, ite_bind', ifB_bind, thenS_bind, Option.bind_assoc]
def C__law_list_in_1 (d : PyData) : Option (PyData) :=
(f__law_number_in d).bind fun v5 =>
some v5
theorem C__law_list_in_1_eq (word hours late part hour k : PyData) (xs : List PyData) : lcL [3] (gNm 3) bYes E__law_list_in_1 xs [word, hours, late, part, hour, k] = (mapS xs (C__law_list_in_1)).bind fun r => some (r, [word, hours, late, part, hour, k]) :=
  lc_map (vs := [3]) (gf := (gNm 3)) (ef := E__law_list_in_1) (C__law_list_in_1) (fun d => by simp -implicitDefEqProofs [E__law_list_in_1, C__law_list_in_1, f__law_number_in_eq, ite_bind', ifB_bind, thenS_bind, Option.bind_assoc]) xs
def C__law_list_in_2 (d : PyData) : Option (Option PyData) :=
(gIs d .none).bind fun v11 =>
(asB v11).bind fun v12 =>
(if v12 = true then (some true) else ((gPow (.int 10) (.int 6)).bind fun v13 =>
(gGt d v13).bind fun v14 =>
(asB v14).bind fun v15 =>
some v15)).bind fun v16 =>
if v16 = true then (some (some d)) else (some none)
theorem C__law_list_in_2_eq (word hours late part hour k : PyData) (xs : List PyData) : lcL [4] (gNm 4) T__law_list_in_1 E__law_list_in_2 xs [word, hours, late, part, hour, k] = (filS xs (C__law_list_in_2)).bind fun r => some (r, [word, hours, late, part, hour, k]) :=
  lc_fil (vs := [4]) (gf := (gNm 4)) (tf := T__law_list_in_1) (ef := E__law_list_in_2) (C__law_list_in_2) (fun d => by simp -implicitDefEqProofs [T__law_list_in_1, E__law_list_in_2, C__law_list_in_2, ite_bind', ifB_bind, thenS_bind, Option.bind_assoc]) xs
def C__law_list_in_3 (hours : PyData) (d : PyData) : Option (Option PyData) :=
(gSub d (.int 1)).bind fun v23 =>
(gIx hours v23).bind fun v24 =>
(gIx hours d).bind fun v25 =>
(gGe v24 v25).bind fun v26 =>
(asB v26).bind fun v27 =>
if v27 = true then (some (some d)) else (some none)
theorem C__law_list_in_3_eq (word hours late part hour k : PyData) (xs : List PyData) : lcL [5] (gNm 5) T__law_list_in_2 E__law_list_in_3 xs [word, hours, late, part, hour, k] = (filS xs (C__law_list_in_3 hours)).bind fun r => some (r, [word, hours, late, part, hour, k]) :=
  lc_fil (vs := [5]) (gf := (gNm 5)) (tf := T__law_list_in_2) (ef := E__law_list_in_3) (C__law_list_in_3 hours) (fun d => by simp -implicitDefEqProofs [T__law_list_in_2, E__law_list_in_3, C__law_list_in_3, ite_bind', ifB_bind, thenS_bind, Option.bind_assoc]) xs
def f__law_list_in (word : PyData) : Option PyData :=
(gEq word (.str "-")).bind fun v1 =>
(asB v1).bind fun v2 =>
if v2 = true then (some (.tuple [])) else ((gSplit word (.str ",")).bind fun v3 =>
(seqD v3).bind fun v4 =>
(mapS v4 (C__law_list_in_1)).bind fun v6 =>
(gLen (.list v6)).bind fun v7 =>
(gGt v7 (.int 20)).bind fun v8 =>
(asB v8).bind fun v9 =>
(if v9 = true then (some true) else ((seqD (.list v6)).bind fun v10 =>
(filS v10 (C__law_list_in_2)).bind fun v17 =>
(gNe (.list v17) (.list [])).bind fun v18 =>
(asB v18).bind fun v19 =>
some v19)).bind fun v20 =>
if v20 = true then (some .none) else ((gLen (.list v6)).bind fun v21 =>
(rng2 (.int 1) v21).bind fun v22 =>
(filS v22 (C__law_list_in_3 (.list v6))).bind fun v28 =>
(gEq (.list v28) (.list [])).bind fun v29 =>
(asB v29).bind fun v30 =>
(if v30 = true then ((gTuple (.list v6)).bind fun v31 =>
some v31) else (some .none)).bind fun v32 =>
some v32))
theorem f__law_list_in_eq (word : PyData) : F__law_list_in [word] = (f__law_list_in word).bind fun r => some (r, [word]) := by
  simp -implicitDefEqProofs [F__law_list_in, S__law_list_in, f__law_list_in, C__law_list_in_1_eq, C__law_list_in_2_eq, C__law_list_in_3_eq, f__law_number_in_eq, ite_bind', ifB_bind, thenS_bind, Option.bind_assoc]
def C__law_due_1 (d : PyData) : Option (PyData) :=
(f__law_list_in d).bind fun v7 =>
some v7
theorem C__law_due_1_eq (value words lists_here wrong word k : PyData) (xs : List PyData) : lcL [4] (gNm 4) bYes E__law_due_1 xs [value, words, lists_here, wrong, word, k] = (mapS xs (C__law_due_1)).bind fun r => some (r, [value, words, lists_here, wrong, word, k]) :=
  lc_map (vs := [4]) (gf := (gNm 4)) (ef := E__law_due_1) (C__law_due_1) (fun d => by simp -implicitDefEqProofs [E__law_due_1, C__law_due_1, f__law_list_in_eq, ite_bind', ifB_bind, thenS_bind, Option.bind_assoc]) xs
def C__law_due_2 (lists_here : PyData) (d : PyData) : Option (Option PyData) :=
(gIx lists_here d).bind fun v11 =>
(gIs v11 .none).bind fun v12 =>
(asB v12).bind fun v13 =>
(if v13 = true then (some true) else ((gGe d (.int 16)).bind fun v14 =>
(asB v14).bind fun v15 =>
some v15)).bind fun v16 =>
if v16 = true then (some (some d)) else (some none)
theorem C__law_due_2_eq (value words lists_here wrong word k : PyData) (xs : List PyData) : lcL [5] (gNm 5) T__law_due_1 E__law_due_2 xs [value, words, lists_here, wrong, word, k] = (filS xs (C__law_due_2 lists_here)).bind fun r => some (r, [value, words, lists_here, wrong, word, k]) :=
  lc_fil (vs := [5]) (gf := (gNm 5)) (tf := T__law_due_1) (ef := E__law_due_2) (C__law_due_2 lists_here) (fun d => by simp -implicitDefEqProofs [T__law_due_1, E__law_due_2, C__law_due_2, ite_bind', ifB_bind, thenS_bind, Option.bind_assoc]) xs
def f__law_due (value : PyData) : Option PyData :=
((gIsa PyData.isStr) value).bind fun v1 =>
(gTruth v1).bind fun v2 =>
if (!v2) = true then (some (.list [(.str "wrong"), .none])) else ((gSplit value (.str " ")).bind fun v3 =>
(gEq v3 (.list [(.str "none")])).bind fun v4 =>
(asB v4).bind fun v5 =>
if v5 = true then (some (.list [(.str "value"), (.tuple [])])) else ((seqD v3).bind fun v6 =>
(mapS v6 (C__law_due_1)).bind fun v8 =>
(gLen (.list v8)).bind fun v9 =>
(rng1 v9).bind fun v10 =>
(filS v10 (C__law_due_2 (.list v8))).bind fun v17 =>
(gEq (.list v17) (.list [])).bind fun v18 =>
(asB v18).bind fun v19 =>
(if v19 = true then ((gTuple (.list v8)).bind fun v20 =>
some (.list [(.str "value"), v20])) else ((gIx (.list v17) (.int 0)).bind fun v21 =>
some (.list [(.str "wrong"), v21]))).bind fun v22 =>
some v22))
theorem f__law_due_eq (value : PyData) : F__law_due [value] = (f__law_due value).bind fun r => some (r, [value]) := by
  simp -implicitDefEqProofs [F__law_due, S__law_due, f__law_due, C__law_due_1_eq, C__law_due_2_eq, f__law_list_in_eq, ite_bind', ifB_bind, thenS_bind, Option.bind_assoc]
def C_law_1 (d : PyData) : Option (PyData) :=
(gStr d).bind fun v3 =>
some v3
theorem C_law_1_eq (script state_here long turn roster_here text values k value kept lamtab : PyData) (xs : List PyData) : lcL [7] (gNm 7) bYes E_law_1 xs [script, state_here, long, turn, roster_here, text, values, k, value, kept, lamtab] = (mapS xs (C_law_1)).bind fun r => some (r, [script, state_here, long, turn, roster_here, text, values, k, value, kept, lamtab]) :=
  lc_map (vs := [7]) (gf := (gNm 7)) (ef := E_law_1) (C_law_1) (fun d => by simp -implicitDefEqProofs [E_law_1, C_law_1, ite_bind', ifB_bind, thenS_bind, Option.bind_assoc]) xs
def L_law_2 (text : PyData) (d : PyData) (s : PyData × PyData) : Option (PyData × PyData) :=
(f__law_spoilt s.1 text).bind fun v18 =>
(f__law_draw v18.2 (.int 3)).bind fun v19 =>
(gEq v19.1 (.int 0)).bind fun v20 =>
(asB v20).bind fun v21 =>
(if v21 = true then ((f__law_spoilt v19.2 v18.1).bind fun v22 =>
some (v22.2, v22.1)) else (some (v19.2, v18.1))).bind fun v23 =>
(gApp s.2 v23.2).bind fun values24 =>
some (v23.1, values24)
theorem L_law_2_eq (script state_here long turn roster_here text values kept lamtab : PyData) (xs : List PyData) : forL (gNm 7) B_law_1 xs [script, state_here, long, turn, roster_here, text, values, .none, .none, kept, lamtab] = (foldS xs (L_law_2 text) (state_here, values)).bind fun r => some (.nx, [script, r.1, long, turn, roster_here, text, r.2, .none, .none, kept, lamtab]) :=
  for_fold (gf := (gNm 7)) (sf := B_law_1) (fun s : PyData × PyData => [script, s.1, long, turn, roster_here, text, s.2, .none, .none, kept, lamtab]) (L_law_2 text) (fun d s => by simp (maxSteps := 2000000) -implicitDefEqProofs [B_law_1, L_law_2, f__law_spoilt_eq, f__law_draw_eq, ite_bind', ifB_bind, thenS_bind, Option.bind_assoc]) xs (state_here, values)
def L_law_3 (d : PyData) (s : Unit) : Option (Out × Unit) :=
(gRepr d).bind fun v29 =>
(f_parse_lists_x d).bind fun v30 =>
(f__law_index v30).bind fun v31 =>
(f__law_due d).bind fun v32 =>
(f__law_same v31 v32).bind fun v33 =>
(gTruth v33).bind fun v34 =>
(if (!v34) = true then (some true) else ((gRepr d).bind fun v35 =>
(gNe v35 v29).bind fun v36 =>
(asB v36).bind fun v37 =>
some v37)).bind fun v38 =>
if v38 = true then (some (.rt (.bool false), ())) else (some (.nx, ()))
theorem L_law_3_eq (script state_here long turn roster_here text values k lamtab : PyData) (xs : List PyData) : forL (gNm 8) B_law_2 xs [script, state_here, long, turn, roster_here, text, values, k, .none, .none, lamtab] = (forS xs (L_law_3) ()).bind fun r => thenS r (fun s' => some (.nx, [script, state_here, long, turn, roster_here, text, values, k, .none, .none, lamtab])) (fun d s' => some (.rt d, [.none, .none, .none, .none, .none, .none, .none, .none, .none, .none, .none])) :=
  for_ret (gf := (gNm 8)) (sf := B_law_2) (jr := [0, 1, 2, 3, 4, 5, 6, 7, 8, 9, 10]) (fun s : Unit => [script, state_here, long, turn, roster_here, text, values, k, .none, .none, lamtab]) (L_law_3) (fun d s => by simp (maxSteps := 2000000) -implicitDefEqProofs [B_law_2, L_law_3, f__law_same_eq, f__law_index_eq, f_parse_lists_x_eq, f__law_due_eq, ite_bind', ifB_bind, thenS_bind, Option.bind_assoc]) xs ()
def L_law_1 (long : PyData) (d : PyData) (s : PyData) : Option (Out × PyData) :=
(f__law_roster s (.int 4) (.int 16)).bind fun v7 =>
(f__law_lists v7.2 v7.1 (.int 12)).bind fun v8 =>
(f__law_lists_text v8.1).bind fun v9 =>
(gMul (.list [(.str "-")]) (.int 16)).bind fun v10 =>
(gJoin (.str " ") v10).bind fun v11 =>
(gMul (.list [(.str "-")]) (.int 17)).bind fun v12 =>
(gJoin (.str " ") v12).bind fun v13 =>
(gAdd long (.str ",20")).bind fun v14 =>
(gAdd (.list [v9, v11, v13, long, v14, (.str "1000000"), (.str "1000001"), (.str "")]) (.list [(.str "none"), (.str "none none"), (.str "- none"), (.str "5,6 none"), (.str "6,5"), (.str "5,5"), (.str "05"), (.str "5,"), (.str ",5"), (.str "-1"), (.str "--")])).bind fun v15 =>
(gAddL v15 (.list [(.str "+5,6"), (.str "1_0"), (.str "5,+6"), (.str "5 1_0")])).bind fun v16 =>
(rng1 (.int 12)).bind fun v17 =>
(foldS v17 (L_law_2 v9) (v8.2, v16)).bind fun v25 =>
(f__law_odd v25.1).bind fun v26 =>
(gAdd v25.2 (.list [.none, (.int 0), (.bool true), (.tuple []), (.list [v9]), (.dict []), v26.1])).bind fun v27 =>
(seqD v27).bind fun v28 =>
(forS v28 (L_law_3) ()).bind fun v39 =>
thenS v39 (fun s40 =>
some (.nx, v26.2)) (fun d42 s41 => some (.rt d42, v26.2))
theorem L_law_1_eq (script state_here long lamtab : PyData) (xs : List PyData) : forL (gNm 3) B_law_3 xs [script, state_here, long, .none, .none, .none, .none, .none, .none, .none, lamtab] = (forS xs (L_law_1 long) state_here).bind fun r => thenS r (fun s' => some (.nx, [script, s', long, .none, .none, .none, .none, .none, .none, .none, lamtab])) (fun d s' => some (.rt d, [.none, .none, .none, .none, .none, .none, .none, .none, .none, .none, .none])) :=
  for_ret (gf := (gNm 3)) (sf := B_law_3) (jr := [0, 1, 2, 3, 4, 5, 6, 7, 8, 9, 10]) (fun s : PyData => [script, s, long, .none, .none, .none, .none, .none, .none, .none, lamtab]) (L_law_1 long) (fun d s => by simp (maxSteps := 2000000) -implicitDefEqProofs [B_law_3, L_law_1, L_law_2_eq, L_law_3_eq, f__law_roster_eq, f__law_lists_text_eq, f__law_lists_eq, f__law_spoilt_eq, f__law_draw_eq, f__law_odd_eq, f__law_same_eq, f__law_index_eq, f_parse_lists_x_eq, f__law_due_eq, ite_bind', ifB_bind, thenS_bind, Option.bind_assoc]) xs state_here
def f_law (script : PyData) : Option PyData :=
(f__law_state script).bind fun v1 =>
(rng1 (.int 20)).bind fun v2 =>
(mapS v2 (C_law_1)).bind fun v4 =>
(gJoin (.str ",") (.list v4)).bind fun v5 =>
(rng1 (.int 6)).bind fun v6 =>
(forS v6 (L_law_1 v5) v1).bind fun v43 =>
thenS v43 (fun s44 =>
some (.bool true)) (fun d46 s45 => some d46)
theorem f_law_eq (script : PyData) : F_law [script] = (f_law script).bind fun r => some (r, [script]) := by
  simp -implicitDefEqProofs [F_law, S_law, f_law, C_law_1_eq, L_law_1_eq, f__law_state_eq, f__law_roster_eq, f__law_lists_text_eq, f__law_lists_eq, f__law_spoilt_eq, f__law_draw_eq, f__law_odd_eq, f__law_same_eq, f__law_index_eq, f_parse_lists_x_eq, f__law_due_eq, ite_bind', ifB_bind, thenS_bind, Option.bind_assoc]
end LK
namespace LK
open PySem L2 PySem.Spec DL
def nums (xs : List Int) : List PyData := xs.map .int
def Deck (k : Nat) (d : PyData) : Prop := ∃ (as bs : List Int) (t : Int), d = .list [.list (nums as), .list (nums bs), .int t] ∧ (∀ a ∈ as, 0 ≤ a) ∧ as.length ≤ 63 ∧ bs ≠ [] ∧ 0 ≤ t ∧ t ≤ k
theorem Deck.mono {k k' : Nat} {d : PyData} (h : Deck k d) (l : k ≤ k') : Deck k' d := by
  obtain ⟨as, bs, t, h1, h2, h3, h4, h5, h6⟩ := h
  exact ⟨as, bs, t, h1, h2, h3, h4, h5, by omega⟩
def absI (i : Int) : Int := if i < 0 then -i else i
theorem state_ok (ns : List Int) (h : ns.length ≤ 63) : ∃ d, f__law_state (.list (ns.map .int)) = some d ∧ Deck 0 d := by
  have h1 : mapS (ns.map .int) C__law_state_1 = some (ns.map fun i => .int (absI i)) := mapS_of fun i _ => rfl
  have h2 : filS ((ns.map absI).map .int) C__law_state_2 = some (((ns.map absI).filter fun i => decide ((10 : Int) ^ 18 ≤ i)).map .int) := filS_of fun i _ => by
    simp [C__law_state_2, xPow]
    split <;> rfl
  have e3 : (ns.map fun i => PyData.int (absI i)) = (ns.map absI).map .int := by rw [List.map_map]; rfl
  have hl : (((ns.map absI).map PyData.int).length : Nat) + 1 ≤ 1000000 := by simp; omega
  refine ⟨.list [.list (nums ((ns.map absI).filter fun i => decide ((10 : Int) ^ 18 ≤ i))), .list (nums (ns.map absI ++ [(((ns.map absI).map PyData.int).length : Int) + 7])), .int 0], ?_, _, _, _, rfl, fun a ha => ?_, ?_, by simp, by decide, by decide⟩
  · unfold f__law_state
    simp only [xSeqL, Option.bind_some, h1, e3, h2, xLenL, xAdd]
    rw [xAddLL (by simpa using hl)]
    simp [nums]
  · have := (List.mem_filter.mp ha).2
    have h := of_decide_eq_true this
    have : (0 : Int) ≤ 10 ^ 18 := by decide
    omega
  · refine Nat.le_trans (List.length_filter_le _ _) ?_
    rw [List.length_map]; exact h
theorem draw_ok {k : Nat} {d : PyData} (hd : Deck k d) (hk : k ≤ 1000000000) (m : Int) (hm : 0 < m) (hm2 : m < 1073741824) : ∃ r d', f__law_draw d (.int m) = some (.int r, d') ∧ Deck (k + 1) d' ∧ 0 ≤ r ∧ r < m := by
  obtain ⟨as, bs, t, rfl, ha, hl, hb, ht, htk⟩ := hd
  have loop : ∀ (as : List Int) (n : Nat), as.length < n → (∀ a ∈ as, 0 ≤ a) → as.length ≤ 63 →
      (∃ as' r, whR n WL__law_draw_1 (L__law_draw_1 (.int m)) (.list [.list (nums as), .list (nums bs), .int t]) = some (.rt (.int r), .list [.list (nums as'), .list (nums bs), .int t]) ∧ (∀ a ∈ as', 0 ≤ a) ∧ as'.length ≤ 63 ∧ 0 ≤ r ∧ r < m) ∨
      whR n WL__law_draw_1 (L__law_draw_1 (.int m)) (.list [.list (nums as), .list (nums bs), .int t]) = some (.nx, .list [.list [], .list (nums bs), .int t]) := by
    intro as
    induction as with
    | nil =>
      intro n hn _ _
      cases n with
      | zero => omega
      | succ n => exact .inr (whR_end (by simp [WL__law_draw_1, nums, plain_nil]))
    | cons a as ih =>
      intro n hn hp hl
      cases n with
      | zero => omega
      | succ n =>
        have h0 := hp a (List.mem_cons_self ..)
        have hpl : PyData.plainAll (nums (a :: as)) = true := plain_map fun _ => rfl
        have hc : WL__law_draw_1 (.list [.list (nums (a :: as)), .list (nums bs), .int t]) = some true := by
          simp [WL__law_draw_1, hpl]
          simp [nums]
        by_cases hz : 0 < a
        · refine .inl ⟨(a / m) :: as, a % m, whR_ret hc ?_, ?_, hl, Int.emod_nonneg _ (by omega), Int.emod_lt_of_pos _ hm⟩
          · simp [L__law_draw_1, nums, hz, xFdiv hm hm2, xMod hm, gSet, setD]
          · intro b hb
            rcases List.mem_cons.mp hb with z | z
            · rw [z]; exact Int.ediv_nonneg h0 (by omega)
            · exact hp b (List.mem_cons_of_mem _ z)
        · have ha0 : a = 0 := by omega
          subst ha0
          have := ih n (by simpa using hn) (fun b hb => hp b (List.mem_cons_of_mem _ hb)) (by simp at hl; omega)
          rw [whR_step hc (s' := .list [.list (nums as), .list (nums bs), .int t]) (by simp [L__law_draw_1, nums, gPopAt, setD])]
          exact this
  rcases loop as fuel (Nat.lt_of_le_of_lt hl (by decide)) ha hl with ⟨as', r, h1, h2, h3, h4, h5⟩ | h1
  · refine ⟨r, _, ?_, ⟨as', bs, t, rfl, h2, h3, hb, ht, by omega⟩, h4, h5⟩
    unfold f__law_draw
    rw [h1]
    rfl
  · have hbl : 0 < bs.length := List.length_pos_iff.mpr hb
    have hbl' : 0 < (((nums bs).length : Nat) : Int) := by rw [nums, List.length_map]; omega
    have ix0 : 0 ≤ (t + 1) % (((nums bs).length : Nat) : Int) := Int.emod_nonneg _ (by omega)
    have ix1 : (t + 1) % (((nums bs).length : Nat) : Int) < bs.length := by
      have := Int.emod_lt_of_pos (t + 1) hbl'
      simpa [nums] using this
    obtain ⟨c, _, _, hat'⟩ := at_map (f := PyData.int) ix0 ix1
    have hc0 : 0 ≤ c % 2147483629 := Int.emod_nonneg _ (by decide)
    have hc1 : c % 2147483629 < 2147483629 := Int.emod_lt_of_pos _ (by decide)
    have m1 := xMul (i := 2) (j := t + 1) (.inl (by decide))
    have m2 := xMul (i := c % 2147483629) (j := 69621 + 2 * (t + 1)) (.inl (by omega))
    have m3 := xMul (i := 48271) (j := t + 1) (.inl (by decide))
    have m4 := xMul (i := 48271 * (t + 1)) (j := t + 1) (.inr (by omega))
    generalize hw : (c % 2147483629 * (69621 + 2 * (t + 1)) + 30011 + 48271 * (t + 1) * (t + 1)) % 2147483587 = w
    have hw0 : 0 ≤ w := by rw [← hw]; exact Int.emod_nonneg _ (by decide)
    have hw1 : w < 2147483587 := by rw [← hw]; exact Int.emod_lt_of_pos _ (by decide)
    have m5 := xMul (i := w) (j := w) (.inl (by omega))
    refine ⟨w * w % 2147483563 / 16 % m, .list [.list (nums []), .list (nums bs), .int (t + 1)], ?_, ⟨[], bs, t + 1, rfl, fun a h => (by cases h), by simp, hb, by omega, by omega⟩, Int.emod_nonneg _ (by omega), Int.emod_lt_of_pos _ hm⟩
    unfold f__law_draw
    rw [h1]
    have k1 := xMod (i := t + 1) hbl'
    have k2 := xMod (i := c) (j := 2147483629) (by decide)
    have k3 := xMod (i := c % 2147483629 * (69621 + 2 * (t + 1)) + 30011 + 48271 * (t + 1) * (t + 1)) (j := 2147483587) (by decide)
    have k4 := xMod (i := w * w) (j := 2147483563) (by decide)
    have k5 := xFdiv (i := w * w % 2147483563) (j := 16) (by decide) (by decide)
    have k6 := xMod (i := w * w % 2147483563 / 16) hm
    rw [hw] at k3
    simp -implicitDefEqProofs only [thenS_nx, List.length_cons, List.length_nil, xIxL, at2, at1, at0, Option.bind_some, scInt, grd_true, xAdd, gSet, ixn2, List.set_cons_succ, List.set_cons_zero, xItem, xLenL, k1, show atI (nums bs) ((t + 1) % (((nums bs).length : Nat) : Int)) = some (PyData.int c) from hat', k2, m1, m2, m3, m4, k3, m5, k4, k5, k6]
    rfl
end LK
namespace LK
open PySem L2 PySem.Spec DL
def Ok {α : Type} (m : Option α) (Q : α → Prop) : Prop := ∃ a, m = some a ∧ Q a
theorem Ok.bnd {α β : Type} {m : Option α} {f : α → Option β} {Q : β → Prop} {a : α} (h : m = some a) (k : Ok (f a) Q) : Ok (m.bind f) Q := by rw [h]; exact k
theorem Ok.post {α β : Type} {m : Option α} {f : α → Option β} {Q : β → Prop} (P : α → Prop) (h : Ok m P) (k : ∀ a, P a → Ok (f a) Q) : Ok (m.bind f) Q := by
  obtain ⟨a, e, p⟩ := h
  rw [e]; exact k a p
theorem Ok.ret {α : Type} {a : α} {Q : α → Prop} (h : Q a) : Ok (some a) Q := ⟨a, rfl, h⟩
theorem Ok.ite {α : Type} {c : Prop} [Decidable c] {x y : Option α} {Q : α → Prop} (h1 : c → Ok x Q) (h2 : ¬ c → Ok y Q) : Ok (if c then x else y) Q := by
  split
  · rename_i h; exact h1 h
  · rename_i h; exact h2 h
theorem Ok.mono {α : Type} {m : Option α} {Q Q' : α → Prop} (h : Ok m Q) (k : ∀ a, Q a → Q' a) : Ok m Q' := by
  obtain ⟨a, e, p⟩ := h
  exact ⟨a, e, k a p⟩
theorem Ok.eq {α : Type} {m : Option α} {a : α} (h : Ok m fun x => x = a) : m = some a := by
  obtain ⟨b, e, rfl⟩ := h
  exact e
end LK
namespace LK
open PySem L2 PySem.Spec DL
structure Ros where
  T : Int
  G : Int
  ls : List (Int × Int)
def les (p : Int × Int) : PyData := .tuple [.int p.1, .int p.2]
def rosD (R : Ros) : PyData := .tuple [.int R.T, .int R.G, .tuple (R.ls.map les)]
def LsOk (T G : Int) (ls : List (Int × Int)) : Prop := ∀ p ∈ ls, 0 ≤ p.1 ∧ p.1 < T ∧ 0 ≤ p.2 ∧ p.2 < G
structure RosOk (n m : Nat) (R : Ros) : Prop where
  T0 : 1 ≤ R.T
  T1 : R.T ≤ n
  G0 : 1 ≤ R.G
  G1 : R.G ≤ n
  len : R.ls.length ≤ m
  ok : LsOk R.T R.G R.ls
theorem LsOk.snoc {T G : Int} {ls : List (Int × Int)} (h : LsOk T G ls) {a b : Int} (ha : 0 ≤ a ∧ a < T ∧ 0 ≤ b ∧ b < G) : LsOk T G (ls ++ [(a, b)]) := fun p hp => by
  rcases List.mem_append.mp hp with z | z
  · exact h p z
  · rw [List.mem_singleton.mp z]; exact ha
theorem les_plain : ∀ p, (les p).plain = true := fun p => by simp [les, plain_tuple, plain_cons, plain_nil]
theorem pick_ok {k : Nat} {d : PyData} (hd : Deck k d) (hk : k ≤ 1000000000) (xs : List PyData) (h0 : xs ≠ []) (hl : xs.length ≤ 1000000) : ∃ x d', f__law_pick d (.list xs) = some (x, d', .list xs) ∧ Deck (k + 1) d' ∧ x ∈ xs := by
  have hp := List.length_pos_iff.mpr h0
  obtain ⟨r, d', h1, h2, h3, h4⟩ := draw_ok hd hk (xs.length : Int) (by omega) (by omega)
  obtain ⟨x, hx, e⟩ := at_mem h3 h4
  exact ⟨x, d', by simp [f__law_pick, h1, e], h2, hx⟩
theorem ros_step {k : Nat} {T G kind : Int} (hT : 1 ≤ T) (hT1 : T ≤ 1000) (hG : 1 ≤ G) (hG1 : G ≤ 1000) (hk : k ≤ 900000000) {dk : PyData} (hd : Deck k dk) {ls : List (Int × Int)} (ok : LsOk T G ls) (hl : ls.length ≤ 900) (x : PyData) :
    Ok (L__law_roster_1 (.int T) (.int G) (.int kind) x (dk, .list (ls.map les))) fun s => ∃ d' p, s = (d', .list ((ls ++ [p]).map les)) ∧ Deck (k + 6) d' ∧ LsOk T G (ls ++ [p]) := by
  obtain ⟨a, d1, h1, k1, a0, a1⟩ := draw_ok hd (by omega) T (by omega) (by omega)
  obtain ⟨b, d2, h2, k2, b0, b1⟩ := draw_ok k1 (by omega) G (by omega) (by omega)
  unfold L__law_roster_1
  refine .bnd h1 (.bnd h2 ?_)
  simp only [xEq, asB_bool, Option.bind_some]
  refine .post (fun v => ∃ c d, v = (c, d) ∧ Deck (k + 3) d) (.ite (fun _ => ?_) fun _ => .ret ⟨_, _, rfl, k2.mono (by omega)⟩) ?_
  · obtain ⟨c, d3, h3, k3, _⟩ := draw_ok k2 (by omega) 2 (by omega) (by omega)
    refine .bnd h3 ?_
    simp only [xEq, asB_bool, Option.bind_some]
    exact .ret ⟨_, _, rfl, k3⟩
  rintro _ ⟨c, d3, rfl, k3⟩
  refine .post (fun v => ∃ p : Int × Int, v = les p ∧ 0 ≤ p.1 ∧ p.1 < T ∧ 0 ≤ p.2 ∧ p.2 < G) (.ite (fun _ => ?_) fun _ => .ret ⟨(a, b), rfl, a0, a1, b0, b1⟩) ?_
  · simp only [xIxT, at1, Option.bind_some]
    exact .ret ⟨(0, b), rfl, by omega, by show (0 : Int) < T; omega, b0, b1⟩
  rintro _ ⟨p, rfl, hp⟩
  refine .post (fun v => ∃ c d, v = (c, d) ∧ Deck (k + 4) d) (.ite (fun _ => ?_) fun _ => .ret ⟨_, _, rfl, k3.mono (by omega)⟩) ?_
  · obtain ⟨c, d4, h4, k4, _⟩ := draw_ok k3 (by omega) 2 (by omega) (by omega)
    refine .bnd h4 ?_
    simp only [xEq, asB_bool, Option.bind_some]
    exact .ret ⟨_, _, rfl, k4⟩
  rintro _ ⟨c2, d4, rfl, k4⟩
  refine .post (fun v => ∃ p : Int × Int, v = les p ∧ 0 ≤ p.1 ∧ p.1 < T ∧ 0 ≤ p.2 ∧ p.2 < G) (.ite (fun _ => ?_) fun _ => .ret ⟨p, rfl, hp⟩) ?_
  · simp only [les, xIxT, at0, xSub, Option.bind_some]
    exact .ret ⟨(p.1, G - 1), rfl, hp.1, hp.2.1, by show 0 ≤ G - 1; omega, by show G - 1 < G; omega⟩
  rintro _ ⟨p2, rfl, hp2⟩
  refine .post (fun v => ∃ c d, v = (c, d) ∧ Deck (k + 5) d ∧ (c = true → ls ≠ [])) (.ite (fun _ => ?_) fun _ => .ret ⟨_, _, rfl, k4.mono (by omega), fun h => by cases h⟩) ?_
  · simp only [xNeNilL, plain_map les_plain, if_true, asB_bool, Option.bind_some]
    refine .post (fun v => ∃ c d, v = (c, d) ∧ Deck (k + 5) d ∧ (c = true → ls ≠ [])) (.ite (fun hne => ?_) fun _ => .ret ⟨_, _, rfl, k4.mono (by omega), fun h => by cases h⟩) ?_
    · obtain ⟨c, d5, h5, k5, _⟩ := draw_ok k4 (by omega) 3 (by omega) (by omega)
      refine .bnd h5 ?_
      simp only [xEq, asB_bool, Option.bind_some]
      exact .ret ⟨_, _, rfl, k5, fun _ z => by subst z; simp at hne⟩
    · rintro _ ⟨c, d5, rfl, k5, hc⟩
      exact .ret ⟨_, _, rfl, k5, hc⟩
  rintro _ ⟨c3, d5, rfl, k5, hc3⟩
  refine .post (fun v => ∃ d p, v = (d, .list (ls.map les), les p) ∧ Deck (k + 6) d ∧ 0 ≤ p.1 ∧ p.1 < T ∧ 0 ≤ p.2 ∧ p.2 < G) (.ite (fun hc => ?_) fun _ => .ret ⟨_, p2, rfl, k5.mono (by omega), hp2⟩) ?_
  · obtain ⟨x, d6, h6, k6, hx⟩ := pick_ok k5 (by omega) (ls.map les) (by simpa using hc3 hc) (by simp; omega)
    refine .bnd h6 ?_
    obtain ⟨q, hq, rfl⟩ := List.mem_map.mp hx
    exact .ret ⟨_, q, rfl, k6, ok q hq⟩
  rintro _ ⟨d6, p3, rfl, k6, hp3⟩
  refine .bnd (xApp (by simp; omega)) (.ret ⟨d6, p3, ?_, k6, ok.snoc hp3⟩)
  simp
theorem roster_ok {k : Nat} {d : PyData} (hd : Deck k d) (hk : k ≤ 100000000) (P Q : Nat) (hP : 1 ≤ P) (hP1 : P ≤ 900) (hQ : Q ≤ 900) :
    ∃ R d', f__law_roster d (.int P) (.int Q) = some (rosD R, d') ∧ Deck (k + 4 + 6 * Q) d' ∧ RosOk P Q R := by
  obtain ⟨a, d1, h1, k1, a0, a1⟩ := draw_ok hd (by omega) P (by omega) (by omega)
  obtain ⟨b, d2, h2, k2, b0, b1⟩ := draw_ok k1 (by omega) P (by omega) (by omega)
  obtain ⟨w, d3, h3, k3, w0, w1⟩ := draw_ok k2 (by omega) 4 (by omega) (by omega)
  obtain ⟨c, d4, h4, k4, c0, c1⟩ := draw_ok k3 (by omega) ((Q : Int) + 1) (by omega) (by omega)
  obtain ⟨s', h5, dk, ls, rfl, hd5, hl5, ok5⟩ := foldS_range (f := L__law_roster_1 (.int (1 + a)) (.int (1 + b)) (.int w)) (s := (d4, .list [])) (n := c.toNat)
    (fun i s => ∃ dk ls, s = (dk, .list (ls.map les)) ∧ Deck (k + 4 + 6 * i) dk ∧ ls.length = i ∧ LsOk (1 + a) (1 + b) ls) ⟨d4, [], rfl, k4, rfl, fun p h => by cases h⟩ fun i s hi h => by
      obtain ⟨dk, ls, rfl, hdk, hl, ok⟩ := h
      obtain ⟨s', e, d', p, rfl, hd', ok'⟩ := ros_step (kind := w) (by omega) (by omega) (by omega) (by omega) (by omega) hdk ok (by omega) (natD i)
      exact ⟨_, e, d', ls ++ [p], rfl, hd'.mono (by omega), by simp [hl], ok'⟩
  refine ⟨⟨1 + a, 1 + b, ls⟩, dk, ?_, hd5.mono (by omega), ⟨by show 1 ≤ 1 + a; omega, by show 1 + a ≤ (P : Int); omega, by show 1 ≤ 1 + b; omega, by show 1 + b ≤ (P : Int); omega, by show ls.length ≤ Q; omega, ok5⟩⟩
  unfold f__law_roster
  simp only [h1, h2, h3, h4, xAdd, Option.bind_some, rng1_ok c0 (by omega : c ≤ 1000000), h5, xTupL]
  rfl
end LK
namespace LK
open PySem L2 PySem.Spec DL
def isNum (v : PyData) (lo hi : Int) : Bool := match v with
  | .int i => decide (lo ≤ i ∧ i ≤ hi)
  | _ => false
theorem is_number_ok (v : PyData) (lo hi : Int) : f_is_number v (.int lo) (.int hi) = some (.bool (isNum v lo hi)) := by
  cases v <;> simp [f_is_number, isNum, PyData.isInt, PyData.isBool]
  rename_i i
  by_cases h : lo ≤ i <;> simp [h]
end LK
namespace LK
open PySem L2 PySem.Spec DL
theorem isNum_int {v : PyData} {lo hi : Int} (h : isNum v lo hi = true) : ∃ i, v = .int i ∧ lo ≤ i ∧ i ≤ hi := by
  unfold isNum at h
  split at h
  · exact ⟨_, rfl, of_decide_eq_true h⟩
  · cases h
end LK
namespace LK
open PySem L2 PySem.Spec DL
end LK
namespace LK
open PySem L2 PySem.Spec DL
def toI : PyData → Int
  | .int i => i
  | _ => 0
def allNum (xs : List PyData) : Bool := xs.all fun x => isNum x 0 1000000
def ascB (l : List Int) : Bool := (l.zip (l.drop 1)).all fun p => decide (p.1 < p.2)
def isListP (v : PyData) : Bool := match v with
  | .tuple xs => decide (xs.length ≤ 20) && (allNum xs && ascB (xs.map toI))
  | _ => false
theorem is_hour_ok (v : PyData) : f_is_hour v = some (.bool (isNum v 0 1000000)) := by
  simp [f_is_hour, is_number_ok]
theorem allNum_ints {xs : List PyData} (h : allNum xs = true) : xs = (xs.map toI).map .int := by
  rw [List.map_map]
  have : ∀ x ∈ xs, (PyData.int ∘ toI) x = x := fun x hx => by
    obtain ⟨i, rfl, _⟩ := isNum_int (List.all_eq_true.mp h x hx)
    rfl
  rw [List.map_congr_left this, List.map_id']
theorem asc_ok (l : List Int) : f_is_ascending (.tuple (l.map .int)) = some (.bool (ascB l)) := by
  have e1 : gSl (.tuple (l.map .int)) (some 1) none = some (.tuple ((l.drop 1).map .int)) := by
    show some (PyData.tuple (cutD (l.map .int) (some ((1 : Nat) : Int)) none)) = _
    rw [cut_drop, List.map_drop]
  have e2 : zipS (.tuple (l.map .int)) (.tuple ((l.drop 1).map .int)) = some ((l.zip (l.drop 1)).map fun p => .tuple [.int p.1, .int p.2]) := by
    show some (zipD _ _) = _
    rw [zip_map]
  have e3 : mapS ((l.zip (l.drop 1)).map fun p => PyData.tuple [.int p.1, .int p.2]) C_is_ascending_1 = some ((l.zip (l.drop 1)).map fun p => .bool (decide (p.1 < p.2))) := mapS_of fun p _ => by
    simp [C_is_ascending_1]
  simp -implicitDefEqProofs only [f_is_ascending, xPrt, Option.bind_some, e1, e2, e3, xAllB]
  rfl
theorem is_list_ok (v : PyData) : f_is_list v = some (.bool (isListP v)) := by
  cases v with
  | tuple xs =>
    have h1 : mapS xs C_is_list_1 = some (xs.map fun x => .bool (isNum x 0 1000000)) := mapS_ok fun x _ => by
      simp [C_is_list_1, is_hour_ok]
    have h2 : gAll (.list (xs.map fun x => .bool (isNum x 0 1000000))) = some (.bool (allNum xs)) := xAllB
    have e : isListP (.tuple xs) = (decide (xs.length ≤ 20) && (allNum xs && ascB (xs.map toI))) := rfl
    rw [e]
    by_cases hl : xs.length ≤ 20
    · have hl' : ¬ (20 : Int) < xs.length := by omega
      by_cases ha : allNum xs = true
      · have := asc_ok (xs.map toI)
        rw [← allNum_ints ha] at this
        simp [f_is_list, PyData.isTuple, hl, hl', h1, h2, ha, this]
      · rw [Bool.not_eq_true] at ha
        simp [f_is_list, PyData.isTuple, hl, hl', h1, h2, ha]
    · have hl' : (20 : Int) < xs.length := by omega
      simp [f_is_list, PyData.isTuple, hl, hl']
  | _ => simp [f_is_list, PyData.isTuple, isListP]
end LK
namespace LK
open PySem L2 PySem.Spec DL
def tx (l : List Nat) : Str := ⟨l.toArray⟩
theorem tl_tx (l : List Nat) : TL.tl (tx l) = l := rfl
theorem tx_tl (z : Str) : tx (TL.tl z) = z := TL.mk_tl z
theorem tx_len (l : List Nat) : (tx l).length = l.length := by rw [TL.len_tl, tl_tx]
theorem tx_inj {a b : List Nat} (h : tx a = tx b) : a = b := by
  have := congrArg TL.tl h
  rwa [tl_tx, tl_tx] at this
theorem tx_add (a b : List Nat) : tx a ++ tx b = tx (a ++ b) := TL.ext_tl (by rw [TL.tl_append, tl_tx, tl_tx, tl_tx])
def tN (n : Nat) : Str := tx (TL.numL n)
theorem tN_is (n : Nat) : (toString ((n : Nat) : Int) : Str) = tN n := TL.ext_tl (by
  show TL.tl (Str.ofString (toString ((n : Nat) : Int))) = _
  rw [TL.tl_num]; rfl)
theorem eqS (a b : List Nat) : gEq (.str (tx a)) (.str (tx b)) = some (.bool (decide (a = b))) := by
  rw [xEqS]
  congr 2
  by_cases h : a = b
  · subst h; simp
  · rw [decide_eq_false h]
    exact beq_eq_false_iff_ne.mpr fun e => h (tx_inj e)
theorem neS (a b : List Nat) : gNe (.str (tx a)) (.str (tx b)) = some (.bool (!decide (a = b))) := by
  rw [gNe_ok (x := .str (tx a)) (y := .str (tx b)) (.inl (Nat.zero_le 60)) rfl rfl, eqv_str]
  congr 3
  by_cases h : a = b
  · subst h; simp
  · rw [decide_eq_false h]
    exact beq_eq_false_iff_ne.mpr fun e => h (tx_inj e)
theorem str_ok {n : Nat} (h : n < 10 ^ 40) : gStr (natD n) = some (.str (tN n)) ∧ gFmt (natD n) = some (.str (tN n)) ∧ (tN n).length ≤ 40 := by
  have l : (tN n).length ≤ 40 := by rw [tN, tx_len]; exact TL.numL_len (by decide) h
  have lg : ((n : Nat) : Int).natAbs.log2 < 1920 := by
    by_cases z : ((n : Nat) : Int).natAbs = 0
    · rw [z]; decide
    · have := (Nat.log2_lt (k := 200) z).mpr (by
        have e : ((n : Nat) : Int).natAbs = n := rfl
        rw [e]
        exact Nat.lt_trans h (by decide))
      omega
  have c : ((n : Nat) : Int).natAbs.log2 < 1920 ∧ (toString ((n : Nat) : Int) : Str).length ≤ sizeLine := ⟨lg, by
    rw [tN_is, sizeLine_eq]; omega⟩
  have e1 : gStr (natD n) = some (.str (toString ((n : Nat) : Int))) := if_pos c
  have e2 : gFmt (natD n) = some (.str (toString ((n : Nat) : Int))) := if_pos c
  rw [tN_is] at e1 e2
  exact ⟨e1, e2, l⟩
def dig (c : Nat) : Bool := decide (48 ≤ c) && decide (c ≤ 57)
def numIn (l : List Nat) : Option Nat :=
  if l = [] ∨ 7 < l.length ∨ l.all dig = false then none else if l.head? = some 48 ∧ l ≠ [48] then none else some (NumText.digitsVal l)
def optN : Option Nat → PyData
  | none => .none
  | some n => natD n
theorem digits_tl : ("0123456789" : Str) = tx [48, 49, 50, 51, 52, 53, 54, 55, 56, 57] := by decide +kernel
theorem inDig (c : Nat) : (decide (c ∈ TL.tl (tx [48, 49, 50, 51, 52, 53, 54, 55, 56, 57]))) = dig c := by
  rw [tl_tx]
  unfold dig
  rw [Bool.eq_iff_iff, decide_eq_true_eq, Bool.and_eq_true, decide_eq_true_eq, decide_eq_true_eq]
  simp only [List.mem_cons, List.not_mem_nil, or_false]
  omega
theorem empty_tx : ("" : Str) = tx [] := by decide +kernel
theorem zero_tx : ("0" : Str) = tx [48] := by decide +kernel
theorem notDig (c : Nat) : gNotInS (.str ⟨#[c]⟩) (.str "0123456789") = some (.bool (!dig c)) := by
  rw [digits_tl]
  have e : gNotInS (.str ⟨#[c]⟩) (.str (tx [48, 49, 50, 51, 52, 53, 54, 55, 56, 57])) = some (.bool (!decide (c ∈ TL.tl (tx [48, 49, 50, 51, 52, 53, 54, 55, 56, 57])))) := rfl
  rw [e, inDig]
theorem int_of {l : List Nat} (h : l.all dig = true) (h1 : l ≠ []) (h2 : l.length ≤ 640) : gIntS (.str (tx l)) = some (natD (NumText.digitsVal l)) := by
  have ad : NumText.AllDigits (TL.tl (tx l)) := fun c hc => by
    have := List.all_eq_true.mp h c hc
    unfold dig at this
    rw [Bool.and_eq_true, decide_eq_true_eq, decide_eq_true_eq] at this
    exact this
  have e := PySem.intText_digits (x := tx l) ad h1 (by rw [tx_len]; omega)
  show (if (tx l).length ≤ 640 then _ else none) = _
  rw [if_pos (by rw [tx_len]; exact h2), e]; rfl
theorem number_ok (l : List Nat) : f_number_in (.str (tx l)) = some (optN (numIn l)) := by
  have e1 : gEq (.str (tx l)) (.str "") = some (.bool (decide (l = []))) := by rw [empty_tx, eqS]
  have ln : gLen (.str (tx l)) = some (.int (l.length : Nat)) := by
    show some (PyData.int ((tx l).length : Nat)) = _
    rw [tx_len]
  have gt : gGt (.int ((l.length : Nat) : Int)) (.int 7) = some (.bool (decide (7 < l.length))) := by
    rw [xGt]; congr 2; rw [decide_eq_decide]; omega
  have ch : gChr (.str (tx l)) = some (l.map fun c => .str ⟨#[c]⟩) := rfl
  have mp : mapS (l.map fun c => PyData.str ⟨#[c]⟩) C_number_in_1 = some (l.map fun c => .bool (!dig c)) := mapS_of fun c _ => by
    simp only [C_number_in_1, notDig, Option.bind_some]
  have an : gAny (.list (l.map fun c => .bool (!dig c))) = some (.bool (l.any fun c => !dig c)) := xAnyB
  have na : (l.any fun c => !dig c) = !l.all dig := by rw [← List.not_all_eq_any_not]
  unfold numIn
  by_cases c1 : l = []
  · rw [if_pos (.inl c1)]
    simp -implicitDefEqProofs only [f_number_in, e1, decide_eq_true c1, asB_bool, if_true, Option.bind_some]
    rfl
  · by_cases c2 : 7 < l.length
    · rw [if_pos (.inr (.inl c2))]
      simp -implicitDefEqProofs only [f_number_in, e1, decide_eq_false c1, asB_bool, Bool.false_eq_true, if_false, ln, gt, decide_eq_true c2, if_true, Option.bind_some]
      rfl
    · cases c3 : l.all dig with
      | false =>
        rw [if_pos (.inr (.inr rfl))]
        simp -implicitDefEqProofs only [f_number_in, e1, decide_eq_false c1, asB_bool, Bool.false_eq_true, if_false, ln, gt, decide_eq_false c2, ch, mp, an, na, c3, Bool.not_false, xTruB, if_true, Option.bind_some]
        rfl
      | true =>
        rw [if_neg (fun z => by rcases z with z | z | z <;> simp_all)]
        obtain ⟨c, r, rfl⟩ : ∃ c r, l = c :: r := by
          cases l with
          | nil => exact absurd rfl c1
          | cons c r => exact ⟨c, r, rfl⟩
        have i0 : gIx (.str (tx (c :: r))) (.int 0) = some (.str (tx [c])) := by
          have a0 : atI (c :: r) ((0 : Nat) : Int) = some c := at_nat (by simp)
          have a0 : atI (c :: r) 0 = some c := a0
          show (atI (TL.tl (tx (c :: r))) 0).map _ = _
          rw [tl_tx, a0]; rfl
        have e3 : gEq (.str (tx [c])) (.str "0") = some (.bool (decide (c = 48))) := by
          rw [zero_tx, eqS]; congr 2; rw [decide_eq_decide]; simp
        have e4 : gNe (.str (tx (c :: r))) (.str "0") = some (.bool (!decide (c :: r = [48]))) := by rw [zero_tx, neS]
        have iv := int_of c3 c1 (by omega)
        have hd : (c :: r).head? = some c := rfl
        rw [hd]
        by_cases c4 : c = 48
        · by_cases c5 : c :: r = [48]
          · rw [if_neg (fun z => z.2 c5)]
            simp -implicitDefEqProofs only [f_number_in, e1, decide_eq_false c1, asB_bool, Bool.false_eq_true, if_false, ln, gt, decide_eq_false c2, ch, mp, an, na, c3, Bool.not_true, xTruB, i0, e3, decide_eq_true c4, if_true, e4, decide_eq_true c5, iv, Option.bind_some]
            rfl
          · rw [if_pos ⟨by rw [c4], c5⟩]
            simp -implicitDefEqProofs only [f_number_in, e1, decide_eq_false c1, asB_bool, Bool.false_eq_true, if_false, ln, gt, decide_eq_false c2, ch, mp, an, na, c3, Bool.not_true, xTruB, i0, e3, decide_eq_true c4, if_true, e4, decide_eq_false c5, Bool.not_false, Option.bind_some]
            rfl
        · rw [if_neg (fun z => c4 (Option.some.inj z.1))]
          simp -implicitDefEqProofs only [f_number_in, e1, decide_eq_false c1, asB_bool, Bool.false_eq_true, if_false, ln, gt, decide_eq_false c2, ch, mp, an, na, c3, Bool.not_true, xTruB, i0, e3, decide_eq_false c4, iv, Option.bind_some]
          rfl
end LK
namespace LK
open PySem L2 PySem.Spec DL
def cutW (s : Nat) (l : List Nat) : List (List Nat) := TL.spl [s] 0 [] l
theorem spl_small (s : Nat) : ∀ (l acc : List Nat), ∀ p ∈ TL.spl [s] 0 acc l, p.length ≤ acc.length + l.length
  | [], acc, p, h => by
    rw [TL.spl_nil] at h
    rw [List.mem_singleton.mp h]; simp
  | c :: r, acc, p, h => by
    cases q : TL.pre [s] (c :: r) with
    | true =>
      rw [TL.spl_hit q] at h
      rcases List.mem_cons.mp h with rfl | h
      · simp
      · have := spl_small s r [] p h
        rw [List.length_cons]
        simp at this
        omega
    | false =>
      rw [TL.spl_miss q] at h
      have := spl_small s r (acc ++ [c]) p h
      rw [List.length_append, List.length_singleton] at this
      rw [List.length_cons]
      omega
theorem cutW_small {s : Nat} {l p : List Nat} (h : p ∈ cutW s l) : p.length ≤ l.length := by
  have := spl_small s l [] p h
  simpa using this
theorem spl_many (s : Nat) : ∀ (l acc : List Nat), (TL.spl [s] 0 acc l).length ≤ l.length + 1
  | [], acc => by rw [TL.spl_nil]; simp
  | c :: r, acc => by
    cases q : TL.pre [s] (c :: r) with
    | true =>
      rw [TL.spl_hit q]
      have := spl_many s r []
      show (TL.spl [s] 0 [] r).length + 1 ≤ r.length + 1 + 1
      omega
    | false =>
      rw [TL.spl_miss q, List.length_cons]
      have := spl_many s r (acc ++ [c])
      omega
theorem cutW_many {s : Nat} {l : List Nat} : (cutW s l).length ≤ l.length + 1 := spl_many s l []
theorem cutW_ne {s : Nat} {l : List Nat} : cutW s l ≠ [] := by
  have : ∀ (l acc : List Nat), TL.spl [s] 0 acc l ≠ [] := fun l => by
    induction l with
    | nil => intro acc; rw [TL.spl_nil]; simp
    | cons c r ih =>
      intro acc
      cases q : TL.pre [s] (c :: r) with
      | true => rw [TL.spl_hit q]; simp
      | false => rw [TL.spl_miss q]; exact ih _
  exact this l []
abbrev txD (p : List Nat) : PyData := .str (tx p)
theorem split_ok {l : List Nat} {s : Nat} (hl : l.length ≤ 1000000) (hs : s < 256) : gSplit (txD l) (txD [s]) = some (.list ((cutW s l).map txD)) := by
  have k : (tx [s]).cps.all (· < 256) = true := by simp [tx, hs]
  have e : Txt.split (tx l) (tx [s]) = (cutW s l).map tx := TL.map_tl_inj (by
    rw [TL.split_spl _ _ (by rw [tl_tx]; simp) (TL.kind_ok k), tl_tx, tl_tx, List.map_map]
    exact (List.map_id _).symm)
  have g1 : ((tx [s]).length == 0) = false := by rw [tx_len]; rfl
  have g2 : (tx l).length + 2 ≤ sizeLine := by rw [tx_len, sizeLine_eq]; omega
  have g3 : (Txt.split (tx l) (tx [s])).all (fun z => decide (z.length ≤ sizeLine)) = true := by
    rw [e, List.all_eq_true]
    intro z hz
    obtain ⟨p, hp, rfl⟩ := List.mem_map.mp hz
    have := cutW_small hp
    exact decide_eq_true (by rw [tx_len, sizeLine_eq]; omega)
  show (if _ then _ else _) = _
  rw [if_pos ⟨g1, g2, g3⟩, e, List.map_map]; rfl
theorem join_len (s : List Nat) : ∀ ps : List (List Nat), (TL.joinL s ps).length ≤ (ps.map (·.length)).sum + ps.length * s.length
  | [] => by simp [TL.joinL]
  | [p] => by simp [TL.joinL]
  | p :: q :: r => by
    have := join_len s (q :: r)
    show (p ++ (s ++ TL.joinL s (q :: r))).length ≤ _
    rw [List.length_append, List.length_append, List.map_cons, List.sum_cons, List.length_cons, Nat.succ_mul]
    omega
theorem join_ok {s : List Nat} {ps : List (List Nat)} (h : (ps.map (·.length)).sum + ps.length * s.length ≤ 1000000) : gJoin (txD s) (.list (ps.map txD)) = some (txD (TL.joinL s ps)) := by
  have e : ps.map txD = (ps.map tx).map .str := by rw [List.map_map]; rfl
  have jn : Txt.join (tx s) (ps.map tx) = tx (TL.joinL s ps) := TL.ext_tl (by
    rw [TL.join_eq, TL.tl_join, tl_tx, tl_tx, List.map_map]
    congr 1
    exact List.map_id _)
  have sm : ((ps.map tx).map (·.length)).sum = (ps.map (·.length)).sum := congrArg List.sum (by
    rw [List.map_map]
    exact List.map_congr_left fun p _ => tx_len p)
  have jl := join_len s ps
  rw [e]
  show (strsOf ((ps.map tx).map .str)).bind _ = _
  rw [strsOf_map, Option.bind_some, if_pos ⟨by rw [sm, List.length_map, tx_len]; omega, by rw [jn, tx_len, sizeLine_eq]; omega⟩, jn]
theorem oN_plain (o : Option Nat) : (optN o).plain = true := by cases o <;> rfl
theorem oN_eqv (o : Option Nat) : PyData.eqv (optN o) .none = decide (o = none) := by cases o <;> rfl
theorem none_inN (os : List (Option Nat)) : gIn .none (.list (os.map optN)) = some (.bool (decide (none ∈ os))) := by
  have c : (decide (min (PyData.depthAll (os.map optN)) (PyData.none).depth ≤ 60) && (PyData.plainAll (os.map optN) && (PyData.none).plain)) = true := by
    rw [Bool.and_eq_true, decide_eq_true_eq, Bool.and_eq_true]
    exact ⟨Nat.le_trans (Nat.min_le_right _ _) (Nat.zero_le _), plain_map oN_plain, rfl⟩
  show (if _ then _ else _) = _
  rw [if_pos c, List.any_map]
  congr 2
  rw [Bool.eq_iff_iff, List.any_eq_true, decide_eq_true_eq]
  constructor
  · rintro ⟨o, ho, e⟩
    have e : PyData.eqv (optN o) .none = true := e
    rw [oN_eqv, decide_eq_true_eq] at e
    exact e ▸ ho
  · intro h
    exact ⟨none, h, by show PyData.eqv (optN none) .none = true; rw [oN_eqv]; rfl⟩
def numsIn (s : Nat) (l : List Nat) : Option (List Nat) := if none ∈ (cutW s l).map numIn then none else some (((cutW s l).map numIn).map fun o => o.getD 0)
def optL : Option (List Nat) → PyData
  | none => .none
  | some ns => .tuple (ns.map natD)
theorem somes {os : List (Option Nat)} (h : none ∉ os) : os.map optN = (os.map fun o => o.getD 0).map natD := by
  rw [List.map_map]
  refine List.map_congr_left fun o ho => ?_
  cases o with
  | none => exact absurd ho h
  | some n => rfl
theorem numbers_ok {l : List Nat} {s : Nat} (hl : l.length ≤ 1000000) (hs : s < 256) : f_numbers_in (txD l) (txD [s]) = some (optL (numsIn s l)) := by
  have m : mapS ((cutW s l).map txD) C_numbers_in_1 = some (((cutW s l).map numIn).map optN) := by
    rw [List.map_map]
    exact mapS_of fun p _ => by
      have : f_number_in (txD p) = _ := number_ok p
      simp only [C_numbers_in_1, this, Option.bind_some]; rfl
  unfold numsIn
  by_cases c : none ∈ (cutW s l).map numIn
  · rw [if_pos c]
    simp -implicitDefEqProofs only [f_numbers_in, split_ok hl hs, xSeqL, m, none_inN, decide_eq_true c, asB_bool, if_true, Option.bind_some]
    rfl
  · rw [if_neg c]
    simp -implicitDefEqProofs only [f_numbers_in, split_ok hl hs, xSeqL, m, none_inN, decide_eq_false c, asB_bool, Bool.false_eq_true, if_false, xTupL, Option.bind_some]
    rw [somes c]; rfl
def lstIn (l : List Nat) : PyData := if isListP (if l = [45] then .tuple [] else optL (numsIn 44 l)) = true then (if l = [45] then .tuple [] else optL (numsIn 44 l)) else .none
theorem dash_tx : ("-" : Str) = tx [45] := by decide +kernel
theorem comma_tx : ("," : Str) = tx [44] := by decide +kernel
theorem list_in_ok {l : List Nat} (hl : l.length ≤ 1000000) : f_list_in (txD l) = some (lstIn l) := by
  have e : gEq (txD l) (.str "-") = some (.bool (decide (l = [45]))) := by rw [dash_tx]; exact eqS l [45]
  have nn : f_numbers_in (txD l) (.str ",") = some (optL (numsIn 44 l)) := by rw [comma_tx]; exact numbers_ok hl (by decide)
  unfold lstIn
  by_cases c : l = [45]
  · rw [if_pos c]
    simp -implicitDefEqProofs only [f_list_in, e, decide_eq_true c, asB_bool, if_true, is_list_ok, xTruB, Option.bind_some]
    split <;> rfl
  · rw [if_neg c]
    simp -implicitDefEqProofs only [f_list_in, e, decide_eq_false c, asB_bool, Bool.false_eq_true, if_false, nn, is_list_ok, xTruB, Option.bind_some]
    split <;> rfl
end LK
namespace LK
open PySem L2 PySem.Spec DL
def wNone : List Nat := [110, 111, 110, 101]
theorem none_tx : ("none" : Str) = tx wNone := by decide +kernel
theorem space_tx : (" " : Str) = tx [32] := by decide +kernel
def Sm (l : List Nat) : Prop := ∀ c ∈ l, c < 256
theorem Sm.app {a b : List Nat} (ha : Sm a) (hb : Sm b) : Sm (a ++ b) := fun c hc => (List.mem_append.mp hc).elim (ha c) (hb c)
theorem sm_num (n : Nat) : Sm (TL.numL n) := fun c hc => by have := TL.numL_digits n c hc; omega
theorem sm_join {s : List Nat} (hs : Sm s) : ∀ {ps : List (List Nat)}, (∀ p ∈ ps, Sm p) → Sm (TL.joinL s ps)
  | [], _ => fun c hc => by cases hc
  | [p], h => h p (List.mem_singleton.mpr rfl)
  | p :: q :: r, h => by
    show Sm (p ++ (s ++ TL.joinL s (q :: r)))
    exact (h p (List.mem_cons_self ..)).app (hs.app (sm_join hs fun z hz => h z (List.mem_cons_of_mem _ hz)))
theorem sum_le {m : Nat} : ∀ {ps : List (List Nat)}, (∀ p ∈ ps, p.length ≤ m) → (ps.map (·.length)).sum ≤ ps.length * m
  | [], _ => by simp
  | p :: r, h => by
    have := sum_le fun z hz => h z (List.mem_cons_of_mem _ hz)
    have := h p (List.mem_cons_self ..)
    rw [List.map_cons, List.sum_cons, List.length_cons, Nat.succ_mul]
    omega
theorem joinL_nil {s : List Nat} {ps : List (List Nat)} (h : ∀ p ∈ ps, p ≠ []) : TL.joinL s ps = [] ↔ ps = [] := by
  constructor
  · intro e
    cases ps with
    | nil => rfl
    | cons a r =>
      exfalso
      have ha := h a (List.mem_cons_self ..)
      cases r with
      | nil => exact ha e
      | cons b r =>
        have e : a ++ (s ++ TL.joinL s (b :: r)) = [] := e
        exact ha (List.append_eq_nil_iff.mp e).1
  · rintro rfl; rfl
def orW (s : List Nat) (w : List Nat) (ps : List (List Nat)) : List Nat := if ps = [] then w else TL.joinL s ps
theorem truS (l : List Nat) : gTruth (txD l) = some (!l.isEmpty) := by
  show some (((tx l).length : Int) != 0) = _
  rw [tx_len]
  cases l with
  | nil => rfl
  | cons a r => rfl
theorem or_ok {s w : List Nat} {ps : List (List Nat)} {m : Nat} (hm : ∀ p ∈ ps, p.length ≤ m) (ne : ∀ p ∈ ps, p ≠ []) (hs : s.length ≤ 1) (h : ps.length * (m + 1) ≤ 1000000) :
    gJoin (txD s) (.list (ps.map txD)) = some (txD (TL.joinL s ps)) ∧ (if (!(TL.joinL s ps).isEmpty) = true then some (txD (TL.joinL s ps)) else some (txD w)) = some (txD (orW s w ps)) := by
  have h1 := sum_le hm
  have h2 : ps.length * s.length ≤ ps.length * 1 := Nat.mul_le_mul_left _ hs
  rw [Nat.mul_add] at h
  refine ⟨join_ok (by omega), ?_⟩
  unfold orW
  by_cases c : ps = []
  · rw [if_pos c, c]; rfl
  · rw [if_neg c]
    have : (TL.joinL s ps).isEmpty = false := by
      rw [Bool.eq_false_iff]
      intro e
      exact c ((joinL_nil ne).mp (List.isEmpty_iff.mp e))
    rw [this]; rfl
def hrsTx (l : List Nat) : List Nat := orW [44] [45] (l.map TL.numL)
def hrsD (l : List Nat) : PyData := .tuple (l.map natD)
def lstsTx (Ls : List (List Nat)) : List Nat := orW [32] wNone (Ls.map hrsTx)
structure HrsOk (l : List Nat) : Prop where
  asc : l.Pairwise (· < ·)
  low : ∀ h ∈ l, h ≤ 1000000
  few : l.length ≤ 20
theorem num_ne (n : Nat) : TL.numL n ≠ [] := TL.numL_ne n
theorem num_len {n : Nat} (h : n ≤ 1000000) : (TL.numL n).length ≤ 7 := TL.numL_len (by decide) (by omega)
theorem orW_ne {s w : List Nat} {ps : List (List Nat)} (hw : w ≠ []) (h : ∀ p ∈ ps, p ≠ []) : orW s w ps ≠ [] := by
  unfold orW
  split
  · exact hw
  · rename_i c
    exact fun e => c ((joinL_nil h).mp e)
theorem orW_len {s w : List Nat} {ps : List (List Nat)} {m : Nat} (hm : ∀ p ∈ ps, p.length ≤ m) (hs : s.length ≤ 1) (hw : w.length ≤ 4) : (orW s w ps).length ≤ ps.length * (m + 1) + 4 := by
  unfold orW
  split
  · omega
  · have h1 := sum_le hm
    have h2 : ps.length * s.length ≤ ps.length * 1 := Nat.mul_le_mul_left _ hs
    have h3 := join_len s ps
    rw [Nat.mul_add]
    omega
theorem hrs_ne (l : List Nat) : hrsTx l ≠ [] := orW_ne (by decide) fun p hp => by
  obtain ⟨n, _, rfl⟩ := List.mem_map.mp hp
  exact num_ne n
theorem hrs_len {l : List Nat} (h : HrsOk l) : (hrsTx l).length ≤ 164 := by
  have := orW_len (s := [44]) (w := [45]) (ps := l.map TL.numL) (m := 7) (fun p hp => by
    obtain ⟨n, hn, rfl⟩ := List.mem_map.mp hp
    exact num_len (h.low n hn)) (by decide) (by decide)
  rw [List.length_map] at this
  have := h.few
  unfold hrsTx
  omega
theorem str_txN {n : Nat} (h : n ≤ 1000000) : gStr (natD n) = some (txD (TL.numL n)) ∧ gFmt (natD n) = some (txD (TL.numL n)) := by
  obtain ⟨a, b, _⟩ := str_ok (n := n) (Nat.lt_of_le_of_lt h (by decide))
  exact ⟨a, b⟩
structure LstsOk (Ls : List (List Nat)) : Prop where
  few : Ls.length ≤ 16
  ok : ∀ l ∈ Ls, HrsOk l
section
variable {R : Ros}
end
end LK
namespace LK
open PySem L2 PySem.Spec DL
theorem plain_txs (ws : List (List Nat)) : PyData.plainAll (ws.map txD) = true := plain_map fun _ => rfl
theorem depth_txs (ws : List (List Nat)) : PyData.depthAll (ws.map txD) ≤ 0 := depth_map (f := txD) (n := 0) fun _ => Nat.le_refl 0
theorem eqv_txs : ∀ (a b : List (List Nat)), PyData.eqvAll (a.map txD) (b.map txD) = decide (a = b)
  | [], [] => by rw [List.map_nil, eqv_nil]; rfl
  | [], _ :: _ => by rw [List.map_nil, List.map_cons]; rfl
  | _ :: _, [] => by rw [List.map_nil, List.map_cons, eqv_nil]; rfl
  | x :: a, y :: b => by
    rw [List.map_cons, List.map_cons, eqv_cons, eqv_txs a b]
    have e : PyData.eqv (txD x) (txD y) = decide (x = y) := by
      have := eqS x y
      rw [xEqS] at this
      rw [show PyData.eqv (txD x) (txD y) = (tx x == tx y) from eqv_str]
      exact PyData.bool.inj (Option.some.inj this)
    rw [e, Bool.eq_iff_iff, Bool.and_eq_true, decide_eq_true_eq, decide_eq_true_eq, decide_eq_true_eq]
    constructor
    · rintro ⟨rfl, rfl⟩; rfl
    · intro z; injection z with z1 z2; exact ⟨z1, z2⟩
theorem eqW (a b : List (List Nat)) : gEq (.list (a.map txD)) (.list (b.map txD)) = some (.bool (decide (a = b))) := by
  have d := depth_txs b
  rw [gEq_ok (.inr (by rw [depth_list]; omega)) (by rw [plain_list]; exact plain_txs a) (by rw [plain_list]; exact plain_txs b), eqv_list, eqv_txs]
end LK
namespace LK
open PySem L2 PySem.Spec DL
theorem slT0 {l : List Nat} {k : Nat} : gSl (txD l) none (some ((k : Nat) : Int)) = some (txD (l.take k)) := by
  show some (PyData.str (cutS (tx l) none (some ((k : Nat) : Int)))) = _
  congr 2
  apply TL.ext_tl
  show ((TL.tl (tx l)).drop 0).take (HT.sIx (tx l).length (tx l).length (some ((k : Nat) : Int)) - 0) = l.take k
  rw [HT.sIx_nat, tx_len, tl_tx, List.drop_zero, Nat.sub_zero]
  by_cases h : k ≤ l.length
  · rw [Nat.min_eq_left h]
  · rw [Nat.min_eq_right (by omega), List.take_of_length_le (by omega), List.take_of_length_le (by omega)]
theorem slT1 {l : List Nat} {k : Nat} : gSl (txD l) (some ((k : Nat) : Int)) none = some (txD (l.drop k)) := by
  show some (PyData.str (cutS (tx l) (some ((k : Nat) : Int)) none)) = _
  congr 2
  apply TL.ext_tl
  show ((TL.tl (tx l)).drop (HT.sIx (tx l).length 0 (some ((k : Nat) : Int)))).take ((tx l).length - HT.sIx (tx l).length 0 (some ((k : Nat) : Int))) = l.drop k
  rw [HT.sIx_nat, tx_len, tl_tx, List.take_of_length_le (by rw [List.length_drop]; omega)]
  by_cases h : k ≤ l.length
  · rw [Nat.min_eq_left h]
  · rw [Nat.min_eq_right (by omega), List.drop_eq_nil_of_le (by omega), List.drop_eq_nil_of_le (by omega)]
theorem addT {a b : List Nat} (h : a.length + b.length ≤ 1000000) : gAdd (txD a) (txD b) = some (txD (a ++ b)) := by
  show (if (tx a).length + (tx b).length ≤ sizeLine then some (PyData.str (tx a ++ tx b)) else none) = _
  rw [if_pos (by rw [tx_len, tx_len, sizeLine_eq]; omega), tx_add]
theorem lenT {l : List Nat} : gLen (txD l) = some (natD l.length) := by
  show some (PyData.int ((tx l).length : Nat)) = _
  rw [tx_len]; rfl
def dblS (l : List Nat) : List Nat := PySem.StrLaws.dbl 32 l
theorem dbl_len : ∀ l : List Nat, (dblS l).length ≤ 2 * l.length
  | [] => Nat.zero_le _
  | c :: r => by
    have ih := dbl_len r
    show (if c = 32 then c :: c :: dblS r else c :: dblS r).length ≤ _
    split <;> simp only [List.length_cons] <;> omega
theorem dbl_mem : ∀ {l : List Nat} {c : Nat}, c ∈ dblS l → c ∈ l
  | d :: r, c, h => by
    have h : c ∈ (if d = 32 then d :: d :: dblS r else d :: dblS r) := h
    split at h
    · rcases List.mem_cons.mp h with z | h
      · rw [z]; exact List.mem_cons_self ..
      · rcases List.mem_cons.mp h with z | h
        · rw [z]; exact List.mem_cons_self ..
        · exact List.mem_cons_of_mem _ (dbl_mem h)
    · rcases List.mem_cons.mp h with z | h
      · rw [z]; exact List.mem_cons_self ..
      · exact List.mem_cons_of_mem _ (dbl_mem h)
theorem space2_tx : ("  " : Str) = ⟨#[32, 32]⟩ := by decide +kernel
theorem space1_tx : (" " : Str) = ⟨#[32]⟩ := by decide +kernel
theorem repT {l : List Nat} (h : l.length ≤ 1000000) : gRep " " "  " (txD l) = some (txD (dblS l)) := by
  have e : Txt.replace (tx l) " " "  " = tx (dblS l) := TL.ext_tl (by
    rw [space2_tx, space1_tx, tl_tx]
    exact PySem.StrLaws.replace_double (tx l) 32)
  have d := dbl_len l
  have z : (("  " : Str)).length = 2 := by decide +kernel
  show (if (tx l).length + ((tx l).length + 1) * ("  " : Str).length ≤ 16777216 ∧ (Txt.replace (tx l) " " "  ").length ≤ sizeLine then some (PyData.str (Txt.replace (tx l) " " "  ")) else none) = _
  rw [if_pos ⟨by rw [tx_len, z]; omega, by rw [e, tx_len, sizeLine_eq]; omega⟩, e]
theorem backT {l : List Nat} : gBackS (txD l) = some (txD l.reverse) := rfl
theorem spl_sum (s : Nat) : ∀ (l acc : List Nat), ((TL.spl [s] 0 acc l).map (·.length)).sum ≤ acc.length + l.length
  | [], acc => by rw [TL.spl_nil]; simp
  | c :: r, acc => by
    cases q : TL.pre [s] (c :: r) with
    | true =>
      rw [TL.spl_hit q]
      have := spl_sum s r []
      show acc.length + ((TL.spl [s] 0 [] r).map (·.length)).sum ≤ acc.length + (r.length + 1)
      simp at this
      omega
    | false =>
      rw [TL.spl_miss q]
      have := spl_sum s r (acc ++ [c])
      rw [List.length_append, List.length_singleton] at this
      rw [List.length_cons]
      omega
theorem spl_mem (s : Nat) : ∀ (l acc : List Nat), ∀ p ∈ TL.spl [s] 0 acc l, ∀ c ∈ p, c ∈ acc ∨ c ∈ l
  | [], acc, p, h, c, hc => by
    rw [TL.spl_nil] at h
    rw [List.mem_singleton.mp h] at hc
    exact .inl hc
  | d :: r, acc, p, h, c, hc => by
    cases q : TL.pre [s] (d :: r) with
    | true =>
      rw [TL.spl_hit q] at h
      rcases List.mem_cons.mp h with rfl | h
      · exact .inl hc
      · rcases spl_mem s r [] p h c hc with z | z
        · cases z
        · exact .inr (List.mem_cons_of_mem _ z)
    | false =>
      rw [TL.spl_miss q] at h
      rcases spl_mem s r (acc ++ [d]) p h c hc with z | z
      · rcases List.mem_append.mp z with z | z
        · exact .inl z
        · rw [List.mem_singleton.mp z]; exact .inr (List.mem_cons_self ..)
      · exact .inr (List.mem_cons_of_mem _ z)
theorem cutW_sum {s : Nat} {l : List Nat} : ((cutW s l).map (·.length)).sum ≤ l.length := by
  have := spl_sum s l []
  rw [List.length_nil, Nat.zero_add] at this
  exact this
theorem cutW_sm {s : Nat} {l p : List Nat} (h : Sm l) (hp : p ∈ cutW s l) : Sm p := fun c hc => (spl_mem s l [] p hp c hc).elim (fun z => by cases z) (h c)
theorem Sm.sub {a b : List Nat} (h : Sm b) (k : ∀ c ∈ a, c ∈ b) : Sm a := fun c hc => h c (k c hc)
theorem sum_take (k : Nat) (ps : List (List Nat)) : ((ps.take k).map (·.length)).sum ≤ (ps.map (·.length)).sum := by
  induction ps generalizing k with
  | nil => simp
  | cons p r ih =>
    cases k with
    | zero => simp
    | succ k =>
      have := ih k
      rw [List.take_succ_cons, List.map_cons, List.sum_cons, List.map_cons, List.sum_cons]
      omega
theorem sum_drop (k : Nat) (ps : List (List Nat)) : ((ps.drop k).map (·.length)).sum ≤ (ps.map (·.length)).sum := by
  induction ps generalizing k with
  | nil => simp
  | cons p r ih =>
    cases k with
    | zero => simp
    | succ k =>
      have := ih k
      rw [List.drop_succ_cons, List.map_cons, List.sum_cons]
      omega
theorem sl_words0 {ps : List (List Nat)} {k : Nat} : gSl (.list (ps.map txD)) none (some ((k : Nat) : Int)) = some (.list ((ps.take k).map txD)) := by
  show some (PyData.list (cutD _ none (some ((k : Nat) : Int)))) = _
  rw [cut_take, List.map_take]
theorem sl_words1 {ps : List (List Nat)} {k : Nat} : gSl (.list (ps.map txD)) (some ((k : Nat) : Int)) none = some (.list ((ps.drop k).map txD)) := by
  show some (PyData.list (cutD _ (some ((k : Nat) : Int)) none)) = _
  rw [cut_drop, List.map_drop]
def signs : List Nat := [32, 48, 49, 51, 57, 45, 44, 58, 110, 120, 10, 43, 95]
theorem signs_tx : (" 0139-,:nx\n+_" : Str) = tx signs := by decide +kernel
theorem sign_ok {j : Nat} (h : j < 13) : ∃ c, gIx (.str " 0139-,:nx\n+_") (natD j) = some (txD [c]) ∧ c < 256 := by
  rw [signs_tx]
  have a : atI signs ((j : Nat) : Int) = some signs[j] := at_nat h
  refine ⟨signs[j], ?_, ?_⟩
  · show (atI (TL.tl (tx signs)) ((j : Nat) : Int)).map _ = _
    rw [tl_tx, a]; rfl
  · have : ∀ c ∈ signs, c < 256 := by decide
    exact this _ (List.getElem_mem _)
theorem nl_tx : ("\n" : Str) = tx [10] := by decide +kernel
def Tx (n : Nat) (d : PyData) : Prop := ∃ l, d = txD l ∧ Sm l ∧ l.length ≤ n
theorem Tx.mono {n m : Nat} {d : PyData} (h : Tx n d) (l : n ≤ m) : Tx m d := by
  obtain ⟨x, a, b, c⟩ := h
  exact ⟨x, a, b, Nat.le_trans c l⟩
theorem int_nat' {r : Int} (h : 0 ≤ r) : ∃ n : Nat, r = (n : Nat) := ⟨r.toNat, (Int.toNat_of_nonneg h).symm⟩
theorem spoilt_ok {k : Nat} {d : PyData} (hd : Deck k d) (hk : k ≤ 900000000) {l : List Nat} (hs : Sm l) (hl : l.length ≤ 100000) :
    ∃ v d', f__law_spoilt d (txD l) = some (v, d') ∧ Tx (3 * l.length + 30) v ∧ Deck (k + 4) d' := by
  have a1 : gAdd (natD l.length) (.int 1) = some (natD (l.length + 1)) := by show gAdd (.int _) (.int _) = _; rw [xAdd]; rfl
  obtain ⟨r1, d1, h1, k1, r10, r11⟩ := draw_ok hd (by omega) ((l.length + 1 : Nat) : Int) (by omega) (by omega)
  obtain ⟨t, rfl⟩ := int_nat' r10
  obtain ⟨r2, d2, h2, k2, r20, r21⟩ := draw_ok k1 (by omega) 13 (by omega) (by omega)
  obtain ⟨u, rfl⟩ := int_nat' r20
  obtain ⟨c, ix, hc⟩ := sign_ok (j := u) (by omega)
  have sp : gSplit (txD l) (.str " ") = some (.list ((cutW 32 l).map txD)) := by rw [space_tx]; exact split_ok (l := l) (s := 32) (by omega) (by decide)
  have wl : gLen (.list ((cutW 32 l).map txD)) = some (natD (cutW 32 l).length) := by rw [xLenL, List.length_map]; rfl
  have wm := cutW_many (s := 32) (l := l)
  have wp : 0 < (cutW 32 l).length := List.length_pos_iff.mpr cutW_ne
  obtain ⟨r3, d3, h3, k3, r30, r31⟩ := draw_ok k2 (by omega) (((cutW 32 l).length : Nat) : Int) (by omega) (by omega)
  obtain ⟨j, rfl⟩ := int_nat' r30
  obtain ⟨r4, d4, h4, k4, r40, r41⟩ := draw_ok k3 (by omega) 12 (by omega) (by omega)
  obtain ⟨e, rfl⟩ := int_nat' r40
  have pt : prt (natD t) = some (some ((t : Nat) : Int)) := rfl
  have t1 : gAdd (natD t) (.int 1) = some (natD (t + 1)) := by show gAdd (.int _) (.int _) = _; rw [xAdd]; rfl
  have pt1 : prt (natD (t + 1)) = some (some ((t + 1 : Nat) : Int)) := rfl
  have pj : prt (natD j) = some (some ((j : Nat) : Int)) := rfl
  have j1 : gAdd (natD j) (.int 1) = some (natD (j + 1)) := by show gAdd (.int _) (.int _) = _; rw [xAdd]; rfl
  have pj1 : prt (natD (j + 1)) = some (some ((j + 1 : Nat) : Int)) := rfl
  have L0 : (l.take t).length ≤ l.length := by rw [List.length_take]; omega
  have L1 : (l.drop t).length ≤ l.length := by rw [List.length_drop]; omega
  have L2 : (l.drop (t + 1)).length ≤ l.length := by rw [List.length_drop]; omega
  have x1 : gAdd (txD (l.take t)) (txD [c]) = some (txD (l.take t ++ [c])) := addT (by rw [List.length_singleton]; omega)
  have x2 : gAdd (txD (l.take t ++ [c])) (txD (l.drop t)) = some (txD (l.take t ++ [c] ++ l.drop t)) := addT (by rw [List.length_append, List.length_singleton]; omega)
  have x3 : gAdd (txD (l.take t ++ [c])) (txD (l.drop (t + 1))) = some (txD (l.take t ++ [c] ++ l.drop (t + 1))) := addT (by rw [List.length_append, List.length_singleton]; omega)
  have x4 : gAdd (txD (l.take t)) (txD (l.drop (t + 1))) = some (txD (l.take t ++ l.drop (t + 1))) := addT (by omega)
  have x5 : gAdd (txD l) (.str "\n") = some (txD (l ++ [10])) := by rw [nl_tx]; exact addT (by rw [List.length_singleton]; omega)
  have x6 : gAdd (.str " ") (txD l) = some (txD ([32] ++ l)) := by rw [space_tx]; exact addT (by rw [List.length_singleton]; omega)
  have x7 : gAdd (txD l) (.str " ") = some (txD (l ++ [32])) := by rw [space_tx]; exact addT (by rw [List.length_singleton]; omega)
  have s0 := cutW_sum (s := 32) (l := l)
  have sT := fun k => sum_take k (cutW 32 l)
  have sD := fun k => sum_drop k (cutW 32 l)
  have lT : ∀ k, ((cutW 32 l).take k).length ≤ (cutW 32 l).length := fun k => by rw [List.length_take]; omega
  have lD : ∀ k, ((cutW 32 l).drop k).length ≤ (cutW 32 l).length := fun k => by rw [List.length_drop]; omega
  have smT : ∀ k, ∀ p ∈ (cutW 32 l).take k, Sm p := fun k p hp => cutW_sm hs (List.mem_of_mem_take hp)
  have smD : ∀ k, ∀ p ∈ (cutW 32 l).drop k, Sm p := fun k p hp => cutW_sm hs (List.mem_of_mem_drop hp)
  have s32 : Sm [32] := fun c hc => by rw [List.mem_singleton.mp hc]; decide
  have smA : ∀ {A B : List (List Nat)}, (∀ p ∈ A, Sm p) → (∀ p ∈ B, Sm p) → ∀ p ∈ A ++ B, Sm p := fun ha hb p hp => (List.mem_append.mp hp).elim (ha p) (hb p)
  -- joined words
  have jn : ∀ {A : List (List Nat)} {m c : Nat}, (A.map (·.length)).sum ≤ m → A.length ≤ c → m + c ≤ 400000 → (∀ p ∈ A, Sm p) → gJoin (.str " ") (.list (A.map txD)) = some (txD (TL.joinL [32] A)) ∧ Sm (TL.joinL [32] A) ∧ (TL.joinL [32] A).length ≤ m + c := fun {A m c} h1 h2 h3 h4 => by
    have q := join_len [32] A
    rw [List.length_singleton] at q
    refine ⟨?_, sm_join s32 h4, by omega⟩
    rw [space_tx]
    exact join_ok (by rw [List.length_singleton]; omega)
  have sumA : ∀ A B : List (List Nat), ((A ++ B).map (·.length)).sum = (A.map (·.length)).sum + (B.map (·.length)).sum := fun A B => by rw [List.map_append, List.sum_append_nat]
  have y1 : gAdd (.list (((cutW 32 l).take j).map txD)) (.list (((cutW 32 l).drop (j + 1)).map txD)) = some (.list (((cutW 32 l).take j ++ (cutW 32 l).drop (j + 1)).map txD)) := by
    have := lT j; have := lD (j + 1)
    rw [xAddL (by rw [List.length_map, List.length_map]; omega), List.map_append]
  have y2 : gAdd (.list (((cutW 32 l).take (j + 1)).map txD)) (.list (((cutW 32 l).drop j).map txD)) = some (.list (((cutW 32 l).take (j + 1) ++ (cutW 32 l).drop j).map txD)) := by
    have := lT (j + 1); have := lD j
    rw [xAddL (by rw [List.length_map, List.length_map]; omega), List.map_append]
  have y3 : gAdd (.list (((cutW 32 l).take j).map txD)) (.list [.str "none"]) = some (.list (((cutW 32 l).take j ++ [wNone]).map txD)) := by
    have := lT j
    rw [xAddL (by rw [List.length_map, List.length_singleton]; omega), List.map_append, none_tx]; rfl
  have y4 : gAdd (.list (((cutW 32 l).take j ++ [wNone]).map txD)) (.list (((cutW 32 l).drop (j + 1)).map txD)) = some (.list (((cutW 32 l).take j ++ [wNone] ++ (cutW 32 l).drop (j + 1)).map txD)) := by
    have := lT j; have := lD (j + 1)
    rw [xAddL (by rw [List.length_map, List.length_map, List.length_append, List.length_singleton]; omega), List.map_append (l₂ := (cutW 32 l).drop (j + 1))]
  have smN : Sm wNone := fun c hc => by
    have : ∀ c ∈ wNone, c < 256 := by decide
    exact this c hc
  obtain ⟨z1, m1, n1⟩ := jn (A := (cutW 32 l).take j ++ (cutW 32 l).drop (j + 1)) (m := 2 * l.length) (c := l.length + 1) (by
    have a := sumA ((cutW 32 l).take j) ((cutW 32 l).drop (j + 1)); have := sT j; have := sD (j + 1); omega) (by rw [List.length_append, List.length_take, List.length_drop]; omega) (by omega) (smA (smT j) (smD (j + 1)))
  obtain ⟨z2, m2, n2⟩ := jn (A := (cutW 32 l).take (j + 1) ++ (cutW 32 l).drop j) (m := 2 * l.length) (c := l.length + 2) (by
    have a := sumA ((cutW 32 l).take (j + 1)) ((cutW 32 l).drop j); have := sT (j + 1); have := sD j; omega) (by rw [List.length_append, List.length_take, List.length_drop]; omega) (by omega) (smA (smT (j + 1)) (smD j))
  obtain ⟨z3, m3, n3⟩ := jn (A := (cutW 32 l).take j ++ [wNone] ++ (cutW 32 l).drop (j + 1)) (m := 2 * l.length + 4) (c := l.length + 2) (by
    have a := sumA ((cutW 32 l).take j ++ [wNone]) ((cutW 32 l).drop (j + 1)); have b := sumA ((cutW 32 l).take j) [wNone]
    have w4 : (([wNone] : List (List Nat)).map (·.length)).sum = 4 := rfl
    have := sT j; have := sD (j + 1); omega) (by rw [List.length_append, List.length_append, List.length_take, List.length_drop, List.length_singleton]; omega) (by omega)
    (smA (smA (smT j) fun p hp => by rw [List.mem_singleton.mp hp]; exact smN) (smD (j + 1)))
  have rp := repT (l := l) (by omega)
  have bk := backT (l := l)
  have dl := dbl_len l
  have sm1 : Sm [c] := fun z hz => by rw [List.mem_singleton.mp hz]; exact hc
  have smt : Sm (l.take t) := hs.sub fun c hc => List.mem_of_mem_take hc
  have smd : ∀ k, Sm (l.drop k) := fun k => hs.sub fun c hc => List.mem_of_mem_drop hc
  have A1 : Tx (3 * l.length + 30) (txD (l.take t ++ [c] ++ l.drop t)) := ⟨_, rfl, (smt.app sm1).app (smd t), by rw [List.length_append, List.length_append, List.length_singleton]; omega⟩
  have A2 : Tx (3 * l.length + 30) (txD (l.take t ++ [c] ++ l.drop (t + 1))) := ⟨_, rfl, (smt.app sm1).app (smd _), by rw [List.length_append, List.length_append, List.length_singleton]; omega⟩
  have A3 : Tx (3 * l.length + 30) (txD (l.take t ++ l.drop (t + 1))) := ⟨_, rfl, smt.app (smd _), by rw [List.length_append]; omega⟩
  have A4 : Tx (3 * l.length + 30) (txD (l.take t)) := ⟨_, rfl, smt, by omega⟩
  have A5 : Tx (3 * l.length + 30) (txD (TL.joinL [32] ((cutW 32 l).take j ++ (cutW 32 l).drop (j + 1)))) := ⟨_, rfl, m1, by omega⟩
  have A6 : Tx (3 * l.length + 30) (txD (TL.joinL [32] ((cutW 32 l).take (j + 1) ++ (cutW 32 l).drop j))) := ⟨_, rfl, m2, by omega⟩
  have A7 : Tx (3 * l.length + 30) (txD (l ++ [10])) := ⟨_, rfl, hs.app fun c hc => by rw [List.mem_singleton.mp hc]; decide, by rw [List.length_append, List.length_singleton]; omega⟩
  have A8 : Tx (3 * l.length + 30) (txD ([32] ++ l)) := ⟨_, rfl, s32.app hs, by rw [List.length_append, List.length_singleton]; omega⟩
  have A9 : Tx (3 * l.length + 30) (txD (l ++ [32])) := ⟨_, rfl, hs.app s32, by rw [List.length_append, List.length_singleton]; omega⟩
  have A10 : Tx (3 * l.length + 30) (txD (TL.joinL [32] ((cutW 32 l).take j ++ [wNone] ++ (cutW 32 l).drop (j + 1)))) := ⟨_, rfl, m3, by omega⟩
  have A11 : Tx (3 * l.length + 30) (txD (dblS l)) := ⟨_, rfl, hs.sub fun c hc => dbl_mem hc, by omega⟩
  have A12 : Tx (3 * l.length + 30) (txD l.reverse) := ⟨_, rfl, hs.sub fun c hc => List.mem_reverse.mp hc, by rw [List.length_reverse]; omega⟩
  obtain ⟨v, hv, hT⟩ : ∃ v, atI ([txD (l.take t ++ [c] ++ l.drop t), txD (l.take t ++ [c] ++ l.drop (t + 1)), txD (l.take t ++ l.drop (t + 1)), txD (l.take t)] ++
      [txD (TL.joinL [32] ((cutW 32 l).take j ++ (cutW 32 l).drop (j + 1))), txD (TL.joinL [32] ((cutW 32 l).take (j + 1) ++ (cutW 32 l).drop j)), txD (l ++ [10]), txD ([32] ++ l)] ++
      [txD (l ++ [32]), txD (TL.joinL [32] ((cutW 32 l).take j ++ [wNone] ++ (cutW 32 l).drop (j + 1))), txD (dblS l), txD l.reverse]) ((e : Nat) : Int) = some v ∧ Tx (3 * l.length + 30) v := by
    rw [at_nat (by show e < 12; omega)]
    refine ⟨_, rfl, ?_⟩
    have : ∀ x ∈ ([txD (l.take t ++ [c] ++ l.drop t), txD (l.take t ++ [c] ++ l.drop (t + 1)), txD (l.take t ++ l.drop (t + 1)), txD (l.take t)] ++
      [txD (TL.joinL [32] ((cutW 32 l).take j ++ (cutW 32 l).drop (j + 1))), txD (TL.joinL [32] ((cutW 32 l).take (j + 1) ++ (cutW 32 l).drop j)), txD (l ++ [10]), txD ([32] ++ l)] ++
      [txD (l ++ [32]), txD (TL.joinL [32] ((cutW 32 l).take j ++ [wNone] ++ (cutW 32 l).drop (j + 1))), txD (dblS l), txD l.reverse]), Tx (3 * l.length + 30) x := by
      intro x hx
      rcases List.mem_append.mp hx with hx | hx
      · rcases List.mem_append.mp hx with hx | hx
        · rcases List.mem_cons.mp hx with rfl | hx
          · exact A1
          rcases List.mem_cons.mp hx with rfl | hx
          · exact A2
          rcases List.mem_cons.mp hx with rfl | hx
          · exact A3
          rw [List.mem_singleton.mp hx]
          exact A4
        · rcases List.mem_cons.mp hx with rfl | hx
          · exact A5
          rcases List.mem_cons.mp hx with rfl | hx
          · exact A6
          rcases List.mem_cons.mp hx with rfl | hx
          · exact A7
          rw [List.mem_singleton.mp hx]
          exact A8
      · rcases List.mem_cons.mp hx with rfl | hx
        · exact A9
        rcases List.mem_cons.mp hx with rfl | hx
        · exact A10
        rcases List.mem_cons.mp hx with rfl | hx
        · exact A11
        rw [List.mem_singleton.mp hx]
        exact A12
    exact this _ (List.getElem_mem _)
  have ixv : gIx (.list _) (natD e) = some v := hv
  refine ⟨v, d4, ?_, hT, k4⟩
  have K : K__law_spoilt_1 d3 (txD l) (.list ((cutW 32 l).map txD)) (natD j) (.list ([txD (l.take t ++ [c] ++ l.drop t), txD (l.take t ++ [c] ++ l.drop (t + 1)), txD (l.take t ++ l.drop (t + 1)), txD (l.take t)] ++
      [txD (TL.joinL [32] ((cutW 32 l).take j ++ (cutW 32 l).drop (j + 1))), txD (TL.joinL [32] ((cutW 32 l).take (j + 1) ++ (cutW 32 l).drop j)), txD (l ++ [10]), txD ([32] ++ l)])) = some (v, d4) := by
    have h4 : f__law_draw d3 (.int 12) = some (natD e, d4) := h4
    have ap := xAddL (xs := [txD (l.take t ++ [c] ++ l.drop t), txD (l.take t ++ [c] ++ l.drop (t + 1)), txD (l.take t ++ l.drop (t + 1)), txD (l.take t)] ++
      [txD (TL.joinL [32] ((cutW 32 l).take j ++ (cutW 32 l).drop (j + 1))), txD (TL.joinL [32] ((cutW 32 l).take (j + 1) ++ (cutW 32 l).drop j)), txD (l ++ [10]), txD ([32] ++ l)]) (ys := [txD (l ++ [32]), txD (TL.joinL [32] ((cutW 32 l).take j ++ [wNone] ++ (cutW 32 l).drop (j + 1))), txD (dblS l), txD l.reverse]) (by show (12 : Nat) ≤ 1000000; decide)
    simp -implicitDefEqProofs only [K__law_spoilt_1, x7, pj, sl_words0, y3, j1, pj1, sl_words1, y4, z3, rp, bk, ap, h4, ixv, Option.bind_some]
  have wl2 : gLen (.list ((cutW 32 l).map txD)) = some (natD (cutW 32 l).length) := wl
  have ap0 := xAddL (xs := [txD (l.take t ++ [c] ++ l.drop t), txD (l.take t ++ [c] ++ l.drop (t + 1)), txD (l.take t ++ l.drop (t + 1)), txD (l.take t)]) (ys := [txD (TL.joinL [32] ((cutW 32 l).take j ++ (cutW 32 l).drop (j + 1))), txD (TL.joinL [32] ((cutW 32 l).take (j + 1) ++ (cutW 32 l).drop j)), txD (l ++ [10]), txD ([32] ++ l)]) (by show (8 : Nat) ≤ 1000000; decide)
  have h1 : f__law_draw d (natD (l.length + 1)) = some (natD t, d1) := h1
  have h2 : f__law_draw d1 (.int 13) = some (natD u, d2) := h2
  have h3 : f__law_draw d2 (natD (cutW 32 l).length) = some (natD j, d3) := h3
  simp -implicitDefEqProofs only [f__law_spoilt, lenT, a1, h1, h2, ix, sp, wl2, h3, pt, slT0, x1, slT1, x2, t1, pt1, x3, x4, pj, sl_words0, j1, pj1, sl_words1, y1, z1, y2, z2, x5, x6, ap0, K, Option.bind_some]
end LK
namespace LK
open PySem L2 PySem.Spec DL
theorem law_number_ok (l : List Nat) : f__law_number_in (.str (tx l)) = some (optN (numIn l)) := by
  have e1 : gEq (.str (tx l)) (.str "") = some (.bool (decide (l = []))) := by rw [empty_tx, eqS]
  have ln : gLen (.str (tx l)) = some (.int (l.length : Nat)) := by
    show some (PyData.int ((tx l).length : Nat)) = _
    rw [tx_len]
  have gt : gGt (.int ((l.length : Nat) : Int)) (.int 7) = some (.bool (decide (7 < l.length))) := by
    rw [xGt]; congr 2; rw [decide_eq_decide]; omega
  have ch : gChr (.str (tx l)) = some (l.map fun c => .str ⟨#[c]⟩) := rfl
  have mp : filS (l.map fun c => PyData.str ⟨#[c]⟩) C__law_number_in_1 = some ((l.filter fun c => !dig c).map fun c => .str ⟨#[c]⟩) := filS_of fun c _ => by
    simp only [C__law_number_in_1, notDig, asB_bool, Option.bind_some]
    cases dig c <;> rfl
  have an : gNe (.list ((l.filter fun c => !dig c).map fun c => PyData.str ⟨#[c]⟩)) (.list []) = some (.bool (!l.all dig)) := by
    rw [xNeNilL]
    congr 3
    clear mp ch gt ln e1
    induction l with
    | nil => rfl
    | cons c r ih => cases h : dig c <;> simp_all
  unfold numIn
  by_cases c1 : l = []
  · rw [if_pos (.inl c1)]
    simp -implicitDefEqProofs only [f__law_number_in, e1, decide_eq_true c1, asB_bool, if_true, Option.bind_some]
    rfl
  · by_cases c2 : 7 < l.length
    · rw [if_pos (.inr (.inl c2))]
      simp -implicitDefEqProofs only [f__law_number_in, e1, decide_eq_false c1, asB_bool, Bool.false_eq_true, if_false, ln, gt, decide_eq_true c2, if_true, Option.bind_some]
      rfl
    · cases c3 : l.all dig with
      | false =>
        rw [if_pos (.inr (.inr rfl))]
        simp -implicitDefEqProofs only [f__law_number_in, e1, decide_eq_false c1, asB_bool, Bool.false_eq_true, if_false, ln, gt, decide_eq_false c2, ch, mp, an, c3, Bool.not_false, if_true, Option.bind_some]
        rfl
      | true =>
        rw [if_neg (fun z => by rcases z with z | z | z <;> simp_all)]
        obtain ⟨c, r, rfl⟩ : ∃ c r, l = c :: r := by
          cases l with
          | nil => exact absurd rfl c1
          | cons c r => exact ⟨c, r, rfl⟩
        have i0 : gIx (.str (tx (c :: r))) (.int 0) = some (.str (tx [c])) := by
          have a0 : atI (c :: r) ((0 : Nat) : Int) = some c := at_nat (by simp)
          have a0 : atI (c :: r) 0 = some c := a0
          show (atI (TL.tl (tx (c :: r))) 0).map _ = _
          rw [tl_tx, a0]; rfl
        have e3 : gEq (.str (tx [c])) (.str "0") = some (.bool (decide (c = 48))) := by
          rw [zero_tx, eqS]; congr 2; rw [decide_eq_decide]; simp
        have e4 : gNe (.str (tx (c :: r))) (.str "0") = some (.bool (!decide (c :: r = [48]))) := by rw [zero_tx, neS]
        have iv := int_of c3 c1 (by omega)
        have hd : (c :: r).head? = some c := rfl
        rw [hd]
        by_cases c4 : c = 48
        · by_cases c5 : c :: r = [48]
          · rw [if_neg (fun z => z.2 c5)]
            simp -implicitDefEqProofs only [f__law_number_in, e1, decide_eq_false c1, asB_bool, Bool.false_eq_true, if_false, ln, gt, decide_eq_false c2, ch, mp, an, c3, Bool.not_true, i0, e3, decide_eq_true c4, if_true, e4, decide_eq_true c5, iv, Option.bind_some]
            rfl
          · rw [if_pos ⟨by rw [c4], c5⟩]
            simp -implicitDefEqProofs only [f__law_number_in, e1, decide_eq_false c1, asB_bool, Bool.false_eq_true, if_false, ln, gt, decide_eq_false c2, ch, mp, an, c3, Bool.not_true, i0, e3, decide_eq_true c4, if_true, e4, decide_eq_false c5, Bool.not_false, Option.bind_some]
            rfl
        · rw [if_neg (fun z => c4 (Option.some.inj z.1))]
          simp -implicitDefEqProofs only [f__law_number_in, e1, decide_eq_false c1, asB_bool, Bool.false_eq_true, if_false, ln, gt, decide_eq_false c2, ch, mp, an, c3, Bool.not_true, i0, e3, decide_eq_false c4, iv, Option.bind_some]
          rfl
def badFrom : Nat → List PyData → Option Nat
  | _, [] => none
  | i, x :: r => if (isN x || decide (16 ≤ i)) = true then some i else badFrom (i + 1) r
theorem head_bad : ∀ (xs : List PyData) (i : Nat) (f : Nat → Bool), (∀ k, k < xs.length → f (i + k) = (isN (xs.getD k .none) || decide (16 ≤ i + k))) → ((List.range' i xs.length).filter f).head? = badFrom i xs
  | [], _, _, _ => rfl
  | x :: r, i, f, h => by
    have h0 := h 0 (by simp)
    have h0 : f i = (isN x || decide (16 ≤ i)) := h0
    rw [List.length_cons, List.range'_succ, List.filter_cons, badFrom, h0]
    by_cases c : (isN x || decide (16 ≤ i)) = true
    · rw [if_pos c, if_pos c]; rfl
    · rw [if_neg c, if_neg c]
      exact head_bad r (i + 1) f fun k hk => by
        have := h (k + 1) (by simpa using hk)
        rw [show i + (k + 1) = i + 1 + k by omega] at this
        exact this
theorem badFrom_none : ∀ {xs : List PyData} {i : Nat}, badFrom i xs = none → xs.length + i ≤ 16 ∨ xs = []
  | [], _, _ => .inr rfl
  | x :: r, i, h => by
    rw [badFrom] at h
    by_cases c : (isN x || decide (16 ≤ i)) = true
    · rw [if_pos c] at h; cases h
    · rw [if_neg c] at h
      have h16 : ¬ 16 ≤ i := fun z => c (by rw [decide_eq_true z, Bool.or_true])
      left
      rcases badFrom_none h with z | z
      · rw [List.length_cons]; omega
      · rw [z, List.length_singleton]; omega
theorem badFrom_lt : ∀ {xs : List PyData} {i k : Nat}, badFrom i xs = some k → k < i + xs.length
  | x :: r, i, k, h => by
    rw [badFrom] at h
    by_cases c : (isN x || decide (16 ≤ i)) = true
    · rw [if_pos c] at h; cases h; rw [List.length_cons]; omega
    · rw [if_neg c] at h
      have := badFrom_lt h
      rw [List.length_cons]; omega
def encP (b : Bool) (d : PyData) : PyData := if b = true then .list [d] else .tuple [.str "BadText", d]
def encL (b : Bool) (d : PyData) : PyData := .list [.str (if b = true then "value" else "wrong"), d]
theorem index_ok (b : Bool) (d : PyData) : f__law_index (encP b d) = some (encL b d) := by
  cases b <;> rfl
end LK
namespace LK
open PySem L2 PySem.Spec DL
theorem wt_int_le {i : Int} {k : Nat} (h : i.natAbs < 2 ^ k) : wt (.int i) ≤ 64 * k + 20 := by
  rw [DL.wt]
  by_cases z : i.natAbs = 0
  · rw [z]; simp
  · have := (Nat.log2_lt (k := k) z).mpr h
    omega
theorem vl_int_of {n s : Nat} {i : Int} (h : wt (.int i) ≤ s) (hs : s ≤ 120000) : Vl n s (.int i) := by
  refine ⟨?_, Nat.zero_le _, h⟩
  rw [DL.wt] at h
  show decide (i.natAbs.log2 < 1920) = true
  exact decide_eq_true (by omega)
theorem vl_smallI {n s : Nat} {i : Int} {k : Nat} (hk : k ≤ 1000) (h : i.natAbs < 2 ^ k) (hs : 64 * k + 20 ≤ s) : Vl n s (.int i) := (vl_int_of (s := 64 * k + 20) (wt_int_le h) (by omega)).mono (Nat.le_refl _) hs
@[simp] theorem xStrB {b : Bool} : gStr (.bool b) = some (.str (if b = true then "True" else "False")) := rfl
theorem VlL.slice {n s t : Nat} {x : PyData} : ∀ {xs : List PyData} (k : Nat), VlL n s xs → k < xs.length → Vl n t x → VlL n (s + t) (xs.take k ++ x :: xs.drop (k + 1))
  | [], k, _, hk, _ => by simp at hk
  | y :: ys, 0, h, _, hx => by
    obtain ⟨s1, s2, h1, h2, h3⟩ := h.split
    exact (VlL.cons hx h2).mono (Nat.le_refl _) (by omega)
  | y :: ys, k + 1, h, hk, hx => by
    obtain ⟨s1, s2, h1, h2, h3⟩ := h.split
    exact (VlL.cons h1 (VlL.slice k h2 (by simpa using hk) hx)).mono (Nat.le_refl _) (by omega)
end LK
namespace LK
open PySem L2 PySem.Spec DL
end LK
namespace LK
open PySem L2 PySem.Spec DL
theorem vl_txt {n s : Nat} {l : List Nat} (h : Sm l) (hl : 10 * l.length + 22 ≤ s) : Vl n s (txD l) := by
  have := StrLaws.reprText_len (tx l) fun c hc => by
    have : c ∈ l := hc
    have := h c this
    omega
  rw [tx_len] at this
  exact ⟨rfl, Nat.zero_le _, by rw [wt]; omega⟩
theorem vl_nat {n : Nat} {k : Nat} (h : k ≤ 1000000) : Vl n 1300 (natD k) := vl_smallI (k := 20) (by decide) (by omega) (by decide)
theorem sm_or {s w : List Nat} {ps : List (List Nat)} (hs : Sm s) (hw : Sm w) (h : ∀ p ∈ ps, Sm p) : Sm (orW s w ps) := by
  unfold orW
  split
  · exact hw
  · exact sm_join hs h
theorem sm_of {l : List Nat} (h : (l.all fun c => decide (c < 256)) = true) : Sm l := fun c hc => of_decide_eq_true (List.all_eq_true.mp h c hc)
theorem same_ok {d : PyData} (h : Vl 58 16000000 d) : f__law_same d d = some (.bool true) := by
  have r := gRepr_ok h (by decide) (by decide)
  simp -implicitDefEqProofs only [f__law_same, r, xEqS, beq_self_eq_true, Option.bind_some]
def Good (d : PyData) : Prop := Tx 60000 d ∨ (PyData.isStr d = false ∧ Vl 10 900000 d)
theorem Good.vl {d : PyData} (h : Good d) : Vl 58 16000000 d := by
  rcases h with ⟨l, rfl, hs, hl⟩ | ⟨_, h⟩
  · exact vl_txt hs (by omega)
  · exact h.mono (by decide) (by decide)
def oddL : List PyData := [.none, .bool true, .bool false, .int (-1), .int 0, .int 1, .int 2, .int 8, .int 1000000, .int 1000001, .int 100000000000000000000000000000, .str "", .str "0", .str "none", .tuple [], .list [], .dict [], .tuple [.int 0], .list [.int 0],
  .tuple [.int 0, .int 0], .tuple [.int 0, .int 1], .tuple [.tuple [.int 0, .int 0]], .tuple [.bool true], .dict [(.str "a", .int 1)]]
theorem odd_good : ∀ v ∈ oddL, Good v := by
  have h1 : (oddL.all fun v => v.isStr || (v.showable && decide (v.depth ≤ 10) && decide (wt v ≤ 900000))) = true := by decide +kernel
  have h2 : (oddL.all fun v => match v with
      | .str z => (TL.tl z).all (fun c => decide (c < 256)) && decide ((TL.tl z).length ≤ 60000)
      | _ => true) = true := by decide +kernel
  intro v hv
  have a := List.all_eq_true.mp h1 v hv
  have b := List.all_eq_true.mp h2 v hv
  cases c : v.isStr with
  | true =>
    cases v with
    | str z =>
      have b : ((TL.tl z).all (fun c => decide (c < 256)) && decide ((TL.tl z).length ≤ 60000)) = true := b
      rw [Bool.and_eq_true, decide_eq_true_eq] at b
      exact .inl ⟨TL.tl z, by rw [txD, tx_tl], sm_of b.1, b.2⟩
    | _ => cases c
  | false =>
    rw [c, Bool.false_or, Bool.and_eq_true, Bool.and_eq_true, decide_eq_true_eq, decide_eq_true_eq] at a
    exact .inr ⟨c, ⟨a.1.1, a.1.2, a.2⟩⟩
theorem odd_ok {k : Nat} {d : PyData} (hd : Deck k d) (hk : k ≤ 900000000) : ∃ v d', f__law_odd d = some (v, d') ∧ Good v ∧ Deck (k + 1) d' := by
  obtain ⟨r, d1, h1, k1, r0, r1⟩ := draw_ok hd (by omega) 24 (by omega) (by omega)
  obtain ⟨j, rfl⟩ := int_nat' r0
  have p6 : gPow (.int 10) (.int 6) = some (.int 1000000) := xPow (by decide) (by decide) (by decide)
  have p29 : gPow (.int 10) (.int 29) = some (.int 100000000000000000000000000000) := xPow (by decide) (by decide) (by decide)
  have a1 : gAdd (.int 1000000) (.int 1) = some (.int 1000001) := rfl
  have ap : gAdd (.list [.none, .bool true, .bool false, .int (-1), .int 0, .int 1, .int 2, .int 8, .int 1000000, .int 1000001, .int 100000000000000000000000000000, .str "", .str "0", .str "none", .tuple [], .list [], .dict [], .tuple [.int 0], .list [.int 0]])
      (.list [.tuple [.int 0, .int 0], .tuple [.int 0, .int 1], .tuple [.tuple [.int 0, .int 0]], .tuple [.bool true], .dict [(.str "a", .int 1)]]) = some (.list oddL) := xAddL (by decide)
  have ix : gIx (.list oddL) (.int ((j : Nat) : Int)) = some (oddL[j]'(by show j < 24; omega)) := by rw [xIxL]; exact at_nat _
  refine ⟨_, d1, ?_, odd_good _ (List.getElem_mem (by show j < 24; omega)), k1⟩
  simp -implicitDefEqProofs only [f__law_odd, xNeg, p6, a1, p29, ap, h1, ix, Option.bind_some]
end LK
namespace LK
open PySem L2 PySem.Spec DL
def tooL (o : Option Nat) : Bool := match o with
  | none => true
  | some n => decide (1000000 < n)
theorem asc_idx (ns : List Nat) : ascB ((ns.map natD).map toI) = true ↔ ∀ k, 1 ≤ k → k < ns.length → ns.getD (k - 1) 0 < ns.getD k 0 := by
  have e : (ns.map natD).map toI = ns.map fun n => ((n : Nat) : Int) := by rw [List.map_map]; rfl
  rw [e]
  unfold ascB
  rw [List.all_eq_true]
  constructor
  · intro h k k1 k2
    have h1 : k - 1 < ((ns.map fun n => ((n : Nat) : Int)).zip ((ns.map fun n => ((n : Nat) : Int)).drop 1)).length := by
      rw [List.length_zip, List.length_drop, List.length_map]; omega
    have := of_decide_eq_true (h _ (List.getElem_mem h1))
    rw [List.getElem_zip] at this
    simp only [List.getElem_drop, List.getElem_map] at this
    rw [List.getD_eq_getElem?_getD, List.getD_eq_getElem?_getD, List.getElem?_eq_getElem (show k - 1 < ns.length by omega), List.getElem?_eq_getElem k2]
    have e2 : ns[1 + (k - 1)]'(by omega) = ns[k] := by congr 1; omega
    rw [e2] at this
    simp only [Option.getD_some]
    omega
  · intro h p hp
    obtain ⟨i, hi, rfl⟩ := List.mem_iff_getElem.mp hp
    rw [List.getElem_zip]
    rw [List.length_zip, List.length_drop, List.length_map] at hi
    have := h (i + 1) (by omega) (by omega)
    rw [List.getD_eq_getElem?_getD, List.getD_eq_getElem?_getD, List.getElem?_eq_getElem (show i + 1 - 1 < ns.length by omega), List.getElem?_eq_getElem (show i + 1 < ns.length by omega)] at this
    simp only [Option.getD_some] at this
    refine decide_eq_true ?_
    simp only [List.getElem_drop, List.getElem_map]
    have e2 : ns[1 + i]'(by omega) = ns[i + 1]'(by omega) := by congr 1; omega
    have e3 : ns[i + 1 - 1]'(by omega) = ns[i]'(by omega) := rfl
    rw [e2]
    rw [e3] at this
    omega
theorem isListP_nums (ns : List Nat) : isListP (.tuple (ns.map natD)) = (decide (ns.length ≤ 20) && ((ns.all fun n => decide (n ≤ 1000000)) && ascB ((ns.map natD).map toI))) := by
  show (decide ((ns.map natD).length ≤ 20) && (allNum (ns.map natD) && ascB ((ns.map natD).map toI))) = _
  rw [List.length_map]
  congr 2
  unfold allNum
  rw [List.all_map]
  congr 1
  funext n
  show decide ((0 : Int) ≤ (n : Nat) ∧ ((n : Nat) : Int) ≤ 1000000) = _
  rw [decide_eq_decide]; omega
theorem law_list_in_ok {l : List Nat} (hl : l.length ≤ 1000000) : f__law_list_in (txD l) = some (lstIn l) := by
  have e : gEq (txD l) (.str "-") = some (.bool (decide (l = [45]))) := by rw [dash_tx]; exact eqS l [45]
  have sp : gSplit (txD l) (.str ",") = some (.list ((cutW 44 l).map txD)) := by rw [comma_tx]; exact split_ok (s := 44) hl (by decide)
  have many := cutW_many (s := 44) (l := l)
  have mp : mapS ((cutW 44 l).map txD) C__law_list_in_1 = some (((cutW 44 l).map numIn).map optN) := by
    rw [List.map_map]
    exact mapS_of fun p _ => by
      have : f__law_number_in (txD p) = _ := law_number_ok p
      simp only [C__law_list_in_1, this, Option.bind_some]; rfl
  unfold lstIn
  by_cases c : l = [45]
  · rw [if_pos c]
    have r : isListP (.tuple []) = true := rfl
    rw [if_pos r]
    simp -implicitDefEqProofs only [f__law_list_in, e, decide_eq_true c, asB_bool, if_true, Option.bind_some]
  · rw [if_neg c]
    unfold numsIn
    unfold f__law_list_in
    rw [e, sp]
    simp -implicitDefEqProofs only [decide_eq_false c, asB_bool, Bool.false_eq_true, if_false, xSeqL, mp, xLenL, Option.bind_some]
    have hlen : ((cutW 44 l).map numIn).length ≤ 1000001 := by rw [List.length_map]; omega
    generalize (cutW 44 l).map numIn = os at *
    have g20 : gGt (.int (((os.map optN).length : Nat) : Int)) (.int 20) = some (.bool (decide (20 < os.length))) := by
      rw [xGt, List.length_map]; congr 2; rw [decide_eq_decide]; omega
    rw [g20]
    simp -implicitDefEqProofs only [asB_bool, Option.bind_some]
    by_cases c20 : 20 < os.length
    · have r : isListP (optL (if none ∈ os then none else some (os.map fun o => o.getD 0))) = false := by
        split
        · rfl
        · show isListP (.tuple ((os.map fun o => o.getD 0).map natD)) = false
          rw [isListP_nums, List.length_map, decide_eq_false (by omega), Bool.false_and]
      rw [decide_eq_true c20, r, if_neg Bool.false_ne_true]
      simp -implicitDefEqProofs only [if_true, Option.bind_some]
    · have fl : filS (os.map optN) C__law_list_in_2 = some ((os.filter tooL).map optN) := filS_of fun o _ => by
        have p6 : gPow (.int 10) (.int 6) = some (.int 1000000) := xPow (by decide) (by decide) (by decide)
        cases o with
        | none => rfl
        | some n =>
          have gt : gGt (natD n) (.int 1000000) = some (.bool (decide (1000000 < n))) := by
            show gGt (.int ((n : Nat) : Int)) (.int 1000000) = _
            rw [xGt]; congr 2; rw [decide_eq_decide]; omega
          have oS : optN (some n) = natD n := rfl
          have iS : isN (natD n) = false := rfl
          rw [oS]
          simp -implicitDefEqProofs only [C__law_list_in_2, xIsN, iS, p6, gt, asB_bool, Bool.false_eq_true, if_false, Option.bind_some]
          show _ = some (if decide (1000000 < n) = true then some (natD n) else none)
          cases decide (1000000 < n) <;> rfl
      rw [decide_eq_false c20]
      simp -implicitDefEqProofs only [Bool.false_eq_true, if_false, fl, xNeNilL, asB_bool, Option.bind_some]
      by_cases ct : os.filter tooL = []
      · have nn : none ∉ os := fun h => by
          have : none ∈ os.filter tooL := List.mem_filter.mpr ⟨h, rfl⟩
          rw [ct] at this; cases this
        have low : ∀ n ∈ os.map (fun o => o.getD 0), n ≤ 1000000 := fun n hn => by
          obtain ⟨o, ho, rfl⟩ := List.mem_map.mp hn
          cases o with
          | none => exact absurd ho nn
          | some n =>
            have : some n ∉ os.filter tooL := by rw [ct]; simp
            have h2 : ¬ tooL (some n) = true := fun z => this (List.mem_filter.mpr ⟨ho, z⟩)
            have h2 : ¬ decide (1000000 < n) = true := h2
            rw [decide_eq_true_eq] at h2
            show n ≤ 1000000
            omega
        have es := somes nn
        rw [if_neg nn, ct, es]
        have hl2 : (os.map fun o => o.getD 0).length ≤ 20 := by rw [List.length_map]; omega
        generalize (os.map fun o => o.getD 0) = ns at *
        have al : (ns.all fun n => decide (n ≤ 1000000)) = true := List.all_eq_true.mpr fun n hn => decide_eq_true (low n hn)
        have ix : ∀ k, k < ns.length → gIx (.list (ns.map natD)) (natD k) = some (natD (ns.getD k 0)) := fun k hk => by
          show gIx (.list (ns.map natD)) (.int ((k : Nat) : Int)) = _
          rw [xIxL, at_nat (by rw [List.length_map]; exact hk), List.getElem_map, List.getD_eq_getElem?_getD, List.getElem?_eq_getElem hk]; rfl
        have rg : rng2 (.int 1) (.int (((ns.map natD).length : Nat) : Int)) = some ((List.range' 1 (ns.length - 1)).map natD) := by
          rw [List.length_map]
          exact rng2_nat (m := 1) (by omega) (by decide)
        have f3 : filS ((List.range' 1 (ns.length - 1)).map natD) (C__law_list_in_3 (.list (ns.map natD))) = some (((List.range' 1 (ns.length - 1)).filter fun k => decide (ns.getD k 0 ≤ ns.getD (k - 1) 0)).map natD) := filS_of fun k hk => by
          obtain ⟨k1, k2⟩ := List.mem_range'_1.mp hk
          have s1 : DL.gSub (natD k) (.int 1) = some (natD (k - 1)) := by
            show some (PyData.int (((k : Nat) : Int) - 1)) = some (.int ((k - 1 : Nat) : Int))
            congr 2; omega
          have i1 := ix (k - 1) (by omega)
          have i2 := ix k (by omega)
          have ge : gGe (natD (ns.getD (k - 1) 0)) (natD (ns.getD k 0)) = some (.bool (decide (ns.getD k 0 ≤ ns.getD (k - 1) 0))) := by
            show gGe (.int _) (.int _) = _
            rw [xGe]; congr 2; rw [decide_eq_decide]; omega
          simp -implicitDefEqProofs only [C__law_list_in_3, s1, i1, i2, ge, asB_bool, Option.bind_some]
          cases decide (ns.getD k 0 ≤ ns.getD (k - 1) 0) <;> rfl
        have em : ((List.range' 1 (ns.length - 1)).filter fun k => decide (ns.getD k 0 ≤ ns.getD (k - 1) 0)).isEmpty = ascB ((ns.map natD).map toI) := by
          rw [Bool.eq_iff_iff, asc_idx, List.isEmpty_iff, List.filter_eq_nil_iff]
          constructor
          · intro h k k1 k2
            have := h k (List.mem_range'_1.mpr ⟨k1, by omega⟩)
            rw [decide_eq_true_eq] at this
            omega
          · intro h k hk
            obtain ⟨k1, k2⟩ := List.mem_range'_1.mp hk
            have := h k k1 (by omega)
            rw [decide_eq_true_eq]
            omega
        have eq : gEq (.list (((List.range' 1 (ns.length - 1)).filter fun k => decide (ns.getD k 0 ≤ ns.getD (k - 1) 0)).map natD)) (.list []) = some (.bool (ascB ((ns.map natD).map toI))) := by
          rw [xEqNilL, ← em, List.isEmpty_map]
        have oL : optL (some ns) = .tuple (ns.map natD) := rfl
        rw [oL, isListP_nums, decide_eq_true hl2, al, Bool.true_and, Bool.true_and]
        simp -implicitDefEqProofs only [List.map_nil, List.isEmpty_nil, Bool.not_true, Bool.false_eq_true, if_false, xLenL, rg, f3, eq, xTupL, asB_bool, Option.bind_some]
        cases ascB ((ns.map natD).map toI) <;> rfl
      · have r : isListP (optL (if none ∈ os then none else some (os.map fun o => o.getD 0))) = false := by
          by_cases nn : none ∈ os
          · rw [if_pos nn]; rfl
          · rw [if_neg nn]
            show isListP (.tuple ((os.map fun o => o.getD 0).map natD)) = false
            rw [isListP_nums]
            obtain ⟨o, ho⟩ := List.exists_mem_of_ne_nil _ ct
            obtain ⟨h1, h2⟩ := List.mem_filter.mp ho
            have bad : ((os.map fun o => o.getD 0).all fun n => decide (n ≤ 1000000)) = false := by
              rw [Bool.eq_false_iff]
              intro z
              cases o with
              | none => exact nn h1
              | some n =>
                have h2 : decide (1000000 < n) = true := h2
                rw [decide_eq_true_eq] at h2
                have := of_decide_eq_true (List.all_eq_true.mp z n (List.mem_map.mpr ⟨some n, h1, rfl⟩))
                omega
            rw [bad, Bool.false_and, Bool.and_false]
        have ne : ((os.filter tooL).map optN).isEmpty = false := by
          rw [List.isEmpty_map]
          cases h : os.filter tooL with
          | nil => exact absurd h ct
          | cons a t => rfl
        rw [r, if_neg Bool.false_ne_true, ne]
        simp -implicitDefEqProofs only [Bool.not_false, if_true, Option.bind_some]
end LK
namespace LK
open PySem L2 PySem.Spec DL
def lsL (ws : List (List Nat)) : List PyData := ws.map lstIn
theorem loop_ok : ∀ (ws : List (List Nat)) (i : Nat) (acc : List PyData), (∀ w ∈ ws, w.length ≤ 1000000) → i ≤ 16 → acc.length + ws.length ≤ 1000000 →
    ∃ s', forS (enumD i (ws.map txD)) L_parse_lists_x_1 (.list acc) = some (match badFrom i (lsL ws) with | some k => (.rt (.tuple [.str "BadText", natD k]), s') | none => (.nx, .list (acc ++ lsL ws)))
  | [], i, acc, _, _, _ => ⟨.none, by
    show some ((.nx, PyData.list acc) : Out × PyData) = some (.nx, .list (acc ++ []))
    rw [List.append_nil]⟩
  | w :: ws, i, acc, hw, hi, hl => by
    have l1 := list_in_ok (hw w (List.mem_cons_self ..))
    have u2 : un2 (.tuple [.int ((i : Nat) : Int), txD w]) = some (.int ((i : Nat) : Int), txD w) := rfl
    have e16 : gEq (.int ((i : Nat) : Int)) (.int 16) = some (.bool (decide (16 ≤ i))) := by
      rw [xEq]; congr 2; rw [decide_eq_decide]; omega
    have rz : gRz "BadText" (.tuple [.int ((i : Nat) : Int)]) = some (.tuple [.str "BadText", natD i]) := rfl
    have hll := hl
    rw [List.length_cons] at hll
    have ap : gApp (.list acc) (lstIn w) = some (.list (acc ++ [lstIn w])) := xApp (by omega)
    by_cases c : (isN (lstIn w) || decide (16 ≤ i)) = true
    · refine ⟨.list acc, ?_⟩
      have st : L_parse_lists_x_1 (.tuple [.int ((i : Nat) : Int), txD w]) (.list acc) = some (.rt (.tuple [.str "BadText", natD i]), .list acc) := by
        simp -implicitDefEqProofs only [L_parse_lists_x_1, u2, l1, xIsN, e16, rz, asB_bool, Option.bind_some]
        cases z : isN (lstIn w) with
        | true => simp only [if_true, Option.bind_some]
        | false =>
          rw [z, Bool.false_or] at c
          simp only [c, if_true, Bool.false_eq_true, if_false, Option.bind_some]
      show forS (PyData.tuple [.int ((i : Nat) : Int), txD w] :: enumD (i + 1) (ws.map txD)) _ _ = _
      have b : badFrom i (lsL (w :: ws)) = some i := if_pos c
      rw [forS, st, b]; rfl
    · have z : isN (lstIn w) = false := by
        cases z : isN (lstIn w) with
        | true => rw [z] at c; exact absurd rfl c
        | false => rfl
      have z2 : decide (16 ≤ i) = false := by
        rw [z, Bool.false_or] at c
        simpa using c
      have h16 : ¬ 16 ≤ i := of_decide_eq_false z2
      have st : L_parse_lists_x_1 (.tuple [.int ((i : Nat) : Int), txD w]) (.list acc) = some (.nx, .list (acc ++ [lstIn w])) := by
        simp -implicitDefEqProofs only [L_parse_lists_x_1, u2, l1, xIsN, e16, z, z2, ap, asB_bool, Option.bind_some, Bool.false_eq_true, if_false]
      obtain ⟨s', ih⟩ := loop_ok ws (i + 1) (acc ++ [lstIn w]) (fun x hx => hw x (List.mem_cons_of_mem _ hx)) (by omega) (by rw [List.length_append, List.length_singleton]; omega)
      refine ⟨s', ?_⟩
      show forS (PyData.tuple [.int ((i : Nat) : Int), txD w] :: enumD (i + 1) (ws.map txD)) _ _ = _
      have b : badFrom i (lsL (w :: ws)) = badFrom (i + 1) (lsL ws) := if_neg c
      have e : acc ++ lsL (w :: ws) = acc ++ [lstIn w] ++ lsL ws := by
        rw [List.append_assoc]; rfl
      rw [forS, st, b, e]
      exact ih
def resT (l : List Nat) : Bool × PyData :=
  if cutW 32 l = [wNone] then (true, .tuple []) else
  match badFrom 0 (lsL (cutW 32 l)) with
  | some k => (false, natD k)
  | none => (true, .tuple (lsL (cutW 32 l)))
theorem prog_ok {l : List Nat} (hl : l.length ≤ 100000) : f_parse_lists_x (txD l) = some (encP (resT l).1 (resT l).2) := by
  have isS : gIsa PyData.isStr (txD l) = some (.bool true) := rfl
  have sp : gSplit (txD l) (.str " ") = some (.list ((cutW 32 l).map txD)) := by rw [space_tx]; exact split_ok (l := l) (s := 32) (by omega) (by decide)
  have wx : f_words_of_x (txD l) = some (.list [.list ((cutW 32 l).map txD)]) := by
    simp -implicitDefEqProofs only [f_words_of_x, isS, xTruB, Bool.not_true, Bool.false_eq_true, if_false, sp, Option.bind_some]
    rfl
  have wm := cutW_many (s := 32) (l := l)
  have wsm : ∀ p ∈ cutW 32 l, p.length ≤ 1000000 := fun p hp => Nat.le_trans (cutW_small hp) (by omega)
  unfold resT
  generalize cutW 32 l = ws at *
  have ok1 : gIsOk tb_words_of_x (.list [.list (ws.map txD)]) = some (.bool true) := rfl
  have un1 : gUn (.list [.list (ws.map txD)]) = some (.list (ws.map txD)) := rfl
  have eq1 : gEq (.list (ws.map txD)) (.list [.str "none"]) = some (.bool (decide (ws = [wNone]))) := by rw [none_tx]; exact eqW ws [wNone]
  simp -implicitDefEqProofs only [f_parse_lists_x, wx, ok1, un1, eq1, asB_bool, if_true, Option.bind_some]
  by_cases c : ws = [wNone]
  · rw [decide_eq_true c, if_pos c]; rfl
  · obtain ⟨s', lp⟩ := loop_ok ws 0 [] wsm (by omega) (by rw [List.length_nil]; omega)
    rw [decide_eq_false c, if_neg c]
    simp -implicitDefEqProofs only [Bool.false_eq_true, if_false, xEnL, lp, Option.bind_some]
    cases hb : badFrom 0 (lsL ws) with
    | some k =>
      show some _ = _
      rfl
    | none =>
      simp only [List.nil_append, thenS_nx, xTupL, Option.bind_some]
      rfl
theorem due_ok {l : List Nat} (hl : l.length ≤ 100000) : f__law_due (txD l) = some (encL (resT l).1 (resT l).2) := by
  have isS : gIsa PyData.isStr (txD l) = some (.bool true) := rfl
  have sp : gSplit (txD l) (.str " ") = some (.list ((cutW 32 l).map txD)) := by rw [space_tx]; exact split_ok (l := l) (s := 32) (by omega) (by decide)
  have wm := cutW_many (s := 32) (l := l)
  have wsm : ∀ p ∈ cutW 32 l, p.length ≤ 1000000 := fun p hp => Nat.le_trans (cutW_small hp) (by omega)
  unfold resT f__law_due
  rw [sp]
  generalize cutW 32 l = ws at *
  have eq1 : gEq (.list (ws.map txD)) (.list [.str "none"]) = some (.bool (decide (ws = [wNone]))) := by rw [none_tx]; exact eqW ws [wNone]
  simp -implicitDefEqProofs only [isS, xTruB, Bool.not_true, eq1, asB_bool, Bool.false_eq_true, if_false, Option.bind_some]
  by_cases c : ws = [wNone]
  · rw [decide_eq_true c, if_pos c]; rfl
  · rw [decide_eq_false c, if_neg c]
    have mp : mapS (ws.map txD) C__law_due_1 = some (lsL ws) := mapS_of fun p hp => by
      simp only [C__law_due_1, law_list_in_ok (wsm p hp), Option.bind_some]
    have hlen : (lsL ws).length ≤ 100001 := by
      unfold lsL
      rw [List.length_map]; omega
    simp -implicitDefEqProofs only [Bool.false_eq_true, if_false, xSeqL, mp, xLenL, Option.bind_some]
    generalize lsL ws = xs at *
    rw [rng1_nat (by omega), Option.bind_some]
    have fl : filS ((List.range xs.length).map natD) (C__law_due_2 (.list xs)) = some (((List.range xs.length).filter fun k => isN (xs.getD k .none) || decide (16 ≤ k)).map natD) := filS_of fun k hk => by
      have hk := List.mem_range.mp hk
      have ix : gIx (.list xs) (natD k) = some (xs.getD k .none) := by
        show gIx (.list xs) (.int ((k : Nat) : Int)) = _
        rw [xIxL, at_nat hk, List.getD_eq_getElem?_getD, List.getElem?_eq_getElem hk]; rfl
      have g16 : gGe (natD k) (.int 16) = some (.bool (decide (16 ≤ k))) := by
        show gGe (.int ((k : Nat) : Int)) (.int 16) = _
        rw [xGe]; congr 2; rw [decide_eq_decide]; omega
      simp -implicitDefEqProofs only [C__law_due_2, ix, xIsN, g16, asB_bool, Option.bind_some]
      cases isN (xs.getD k .none) <;> cases decide (16 ≤ k) <;> rfl
    rw [fl, Option.bind_some]
    have hb := head_bad xs 0 (fun k => isN (xs.getD k .none) || decide (16 ≤ k)) fun k _ => by rw [Nat.zero_add]
    rw [← List.range_eq_range'] at hb
    rw [← hb]
    generalize (List.range xs.length).filter (fun k => isN (xs.getD k .none) || decide (16 ≤ k)) = bs
    cases bs with
    | nil =>
      have ne : gEq (.list (([] : List Nat).map natD)) (.list []) = some (.bool true) := xEqNilL
      simp -implicitDefEqProofs only [ne, asB_bool, if_true, xTupL, Option.bind_some]
      rfl
    | cons k r =>
      have ne : gEq (.list ((k :: r).map natD)) (.list []) = some (.bool false) := xEqNilL
      have i0 : gIx (.list ((k :: r).map natD)) (.int 0) = some (natD k) := by rw [xIxL, List.map_cons]; exact at0
      simp -implicitDefEqProofs only [ne, i0, asB_bool, Bool.false_eq_true, if_false, Option.bind_some]
      rfl
end LK
namespace LK
open PySem L2 PySem.Spec DL
theorem vl_lstIn (l : List Nat) : Vl 3 30000 (lstIn l) := by
  have nn : Vl 3 30000 PyData.none := ⟨rfl, Nat.zero_le _, by decide⟩
  unfold lstIn
  by_cases c : l = [45]
  · rw [if_pos c]
    split
    · exact (VlL.nil (n := 2) (s := 0)).tuple.mono (by decide) (by decide)
    · exact nn
  · rw [if_neg c]
    cases numsIn 44 l with
    | none =>
      have r : isListP (optL none) = false := rfl
      rw [r, if_neg Bool.false_ne_true]
      exact nn
    | some ns =>
      split
      · rename_i h
        have h : isListP (.tuple (ns.map natD)) = true := h
        rw [isListP_nums, Bool.and_eq_true, Bool.and_eq_true, decide_eq_true_eq] at h
        have v : VlL 2 (ns.length * (1300 + 2)) (ns.map natD) := vl_map (c := 1300) fun n hn => vl_nat (of_decide_eq_true (List.all_eq_true.mp h.2.1 n hn))
        have := h.1
        exact v.tuple.mono (by decide) (by omega)
      · exact nn
theorem vl_res {l : List Nat} (hl : l.length ≤ 100000) : Vl 6 1000000 (resT l).2 := by
  have wm := cutW_many (s := 32) (l := l)
  have sm : ∀ k : Nat, k ≤ 1000000 → Vl 6 1000000 (natD k) := fun k h => (vl_nat h).mono (Nat.le_refl _) (by decide)
  unfold resT
  generalize cutW 32 l = ws at *
  by_cases c : ws = [wNone]
  · rw [if_pos c]; exact (VlL.nil (n := 2) (s := 0)).tuple.mono (by decide) (by decide)
  · rw [if_neg c]
    have e : (lsL ws).length = ws.length := by unfold lsL; rw [List.length_map]
    cases hb : badFrom 0 (lsL ws) with
    | some k =>
      have := badFrom_lt hb
      exact sm k (by omega)
    | none =>
      have few : ws.length ≤ 16 := by
        rcases badFrom_none hb with z | z
        · omega
        · rw [z] at e
          have e : 0 = ws.length := e
          omega
      have v : VlL 3 (ws.length * (30000 + 2)) (lsL ws) := vl_map (c := 30000) fun w _ => vl_lstIn w
      exact v.tuple.mono (by decide) (by omega)
theorem value_tx : ("value" : Str) = tx [118, 97, 108, 117, 101] := by decide +kernel
theorem wrong_tx : ("wrong" : Str) = tx [119, 114, 111, 110, 103] := by decide +kernel
theorem vl_enc {b : Bool} {d : PyData} (h : Vl 6 1000000 d) : Vl 58 16000000 (encL b d) := by
  have v : Vl 6 1000 (.str (if b = true then "value" else "wrong")) := by
    cases b with
    | true =>
      show Vl 6 1000 (.str "value")
      rw [value_tx]
      exact vl_txt (sm_of (by decide)) (by decide)
    | false =>
      show Vl 6 1000 (.str "wrong")
      rw [wrong_tx]
      exact vl_txt (sm_of (by decide)) (by decide)
  exact (VlL.cons v (VlL.cons h (VlL.nil (s := 0)))).list.mono (by decide) (by decide)
theorem one_ok {d : PyData} (h : Good d) : L_law_3 d () = some (.nx, ()) := by
  have rp := gRepr_ok h.vl (by decide) (by decide)
  have ne : gNe (.str d.shown) (.str d.shown) = some (.bool false) := by rw [xNeS]; simp
  obtain ⟨b, v, hp, hd, hv⟩ : ∃ b v, f_parse_lists_x d = some (encP b v) ∧ f__law_due d = some (encL b v) ∧ Vl 6 1000000 v := by
    rcases h with ⟨l, rfl, hs, hl⟩ | ⟨h, _⟩
    · exact ⟨_, _, prog_ok (by omega), due_ok (by omega), vl_res (by omega)⟩
    · refine ⟨false, .none, ?_, ?_, ⟨rfl, Nat.zero_le _, by decide⟩⟩
      · have wx : f_words_of_x d = some (.tuple [.str "BadText", .none]) := by
          simp -implicitDefEqProofs only [f_words_of_x, xIsa, h, xTruB, Bool.not_false, if_true, Option.bind_some]
          rfl
        have bd : gIsOk tb_words_of_x (.tuple [.str "BadText", .none]) = some (.bool false) := rfl
        simp -implicitDefEqProofs only [f_parse_lists_x, wx, bd, asB_bool, Bool.false_eq_true, if_false, Option.bind_some]
        rfl
      · simp -implicitDefEqProofs only [f__law_due, xIsa, h, xTruB, Bool.not_false, if_true, Option.bind_some]
        rfl
  simp -implicitDefEqProofs only [L_law_3, rp, hp, index_ok, hd, same_ok (vl_enc hv), xTruB, ne, asB_bool, Bool.not_true, Bool.false_eq_true, if_false, Option.bind_some]
theorem lists_step {M : Nat} (hM : M ≤ 100) {k : Nat} {dk : PyData} (hd : Deck k dk) (hk : k ≤ 900000000) {lw : Nat} (hlw : lw ≤ 999960) (found : List (List Nat)) (hf : found.length ≤ 900) (x : PyData) :
    ∃ (d' : PyData) (l : List Nat), L__law_lists_1 (natD M) (natD lw) x (dk, .list (found.map hrsD)) = some (d', .list ((found ++ [l]).map hrsD)) ∧ Deck (k + M + 10) d' ∧ HrsOk l := by
  have ad : gAdd (natD M) (.int 1) = some (.int ((M : Nat) + 1)) := by show gAdd (.int _) (.int _) = _; rw [xAdd]
  obtain ⟨r, d1, h1, k1, r0, r1⟩ := draw_ok hd (by omega) ((M : Nat) + 1) (by omega) (by omega)
  obtain ⟨j, rfl⟩ := int_nat' r0
  have rg : rng1 (.int ((j : Nat) : Int)) = some ((List.range j).map natD) := rng1_nat (by omega)
  obtain ⟨xs, d2, h2, k2, l2, p2⟩ := mapE_typ (f := C__law_lists_1 (natD lw)) PyData.int (fun i s => Deck (k + 1 + i) s) (fun _ i => 0 ≤ i ∧ i ≤ 1000000) (l := (List.range j).map natD) (k := 0) (s := d1) k1 fun i a s hi hs => by
    have hi : i < j := by
      have := (List.getElem?_eq_some_iff.mp hi).1
      rwa [List.length_map, List.length_range] at this
    rw [Nat.zero_add] at hs ⊢
    obtain ⟨q, s', e, k', q0, q1⟩ := draw_ok hs (by omega) 41 (by omega) (by omega)
    have a1 : gAdd (natD lw) (.int q) = some (.int ((lw : Nat) + q)) := by show gAdd (.int _) (.int _) = _; rw [xAdd]
    exact ⟨(lw : Nat) + q, s', by simp -implicitDefEqProofs only [C__law_lists_1, e, a1, Option.bind_some], k', by omega⟩
  rw [List.length_map, List.length_range] at k2 l2
  have ss : gSortSet (.list (xs.map .int)) = some (.list ((sortSet xs).map .int)) := xSortSetL (by omega)
  have gt : gTuple (.list ((sortSet xs).map .int)) = some (.tuple ((sortSet xs).map .int)) := xTupL
  have pr : prt (.int 20) = some (some ((20 : Nat) : Int)) := rfl
  have sl : gSl (.tuple ((sortSet xs).map .int)) none (some ((20 : Nat) : Int)) = some (.tuple (((sortSet xs).map .int).take 20)) := by
    show some (PyData.tuple (cutD _ none (some ((20 : Nat) : Int)))) = _
    rw [cut_take]
  have mem : ∀ i ∈ sortSet xs, 0 ≤ i ∧ i ≤ (1000000 : Int) := fun i hi => by
    obtain ⟨t, ht, rfl⟩ := List.mem_iff_getElem.mp (sortSet_mem.mp hi)
    exact p2 t _ (List.getElem?_eq_getElem ht)
  have e : ((sortSet xs).map PyData.int).take 20 = (((sortSet xs).map Int.toNat).take 20).map natD := by
    rw [List.map_take, List.map_map]
    congr 1
    refine List.map_congr_left fun i hi => ?_
    show PyData.int i = .int ((i.toNat : Nat) : Int)
    rw [Int.toNat_of_nonneg (mem i hi).1]
  refine ⟨d2, ((sortSet xs).map Int.toNat).take 20, ?_, k2.mono (by omega), ⟨?_, fun h hh => ?_, by rw [List.length_take]; omega⟩⟩
  · have ap : gApp (.list (found.map hrsD)) (.tuple (((sortSet xs).map .int).take 20)) = some (.list ((found ++ [((sortSet xs).map Int.toNat).take 20]).map hrsD)) := by
      rw [xApp (by rw [List.length_map]; omega), List.map_append, e]; rfl
    simp -implicitDefEqProofs only [L__law_lists_1, ad, h1, rg, h2, ss, gt, pr, sl, ap, Option.bind_some]
  · refine List.Pairwise.sublist (List.take_sublist _ _) ?_
    rw [List.pairwise_map]
    exact (sortSet_lt xs).imp_of_mem fun {a b} ha hb z => by
      have := mem a ha
      have := mem b hb
      omega
  · obtain ⟨i, hi, rfl⟩ := List.mem_map.mp (List.mem_of_mem_take hh)
    have := mem i hi
    omega
theorem lists_ok {M : Nat} (hM : M ≤ 100) {k : Nat} {d : PyData} (hd : Deck k d) (hk : k ≤ 90000000) {R : Ros} (hn : R.ls.length ≤ 16) :
    ∃ (Ls : List (List Nat)) (d' : PyData), f__law_lists d (rosD R) (natD M) = some (.tuple (Ls.map hrsD), d') ∧ Deck (k + 2000) d' ∧ LstsOk Ls ∧ Ls.length = R.ls.length := by
  have p6 : gPow (.int 10) (.int 6) = some (.int 1000000) := xPow (by decide) (by decide) (by decide)
  have s1 : DL.gSub (.int 1000000) (.int 40) = some (.int 999960) := rfl
  obtain ⟨r, d1, h1, k1, r0, r1⟩ := draw_ok hd (by omega) 4 (by omega) (by omega)
  obtain ⟨lw, e1, hlw⟩ : ∃ lw : Nat, gIx (.list [.int 0, .int 0, .int 7, .int 999960]) (.int r) = some (natD lw) ∧ lw ≤ 999960 := by
    have : r = 0 ∨ r = 1 ∨ r = 2 ∨ r = 3 := by omega
    rcases this with rfl | rfl | rfl | rfl
    · exact ⟨0, rfl, by decide⟩
    · exact ⟨0, rfl, by decide⟩
    · exact ⟨7, rfl, by decide⟩
    · exact ⟨999960, rfl, by decide⟩
  have i2 : gIx (rosD R) (.int 2) = some (.tuple (R.ls.map les)) := rfl
  obtain ⟨s', f1, dk, Ls, rfl, kd, ln, ok⟩ := foldS_inv (f := L__law_lists_1 (natD M) (natD lw)) (l := R.ls.map les) (k := 0) (s := (d1, .list []))
    (fun i s => ∃ dk Ls, s = (dk, .list (Ls.map hrsD)) ∧ Deck (k + 1 + 110 * i) dk ∧ Ls.length = i ∧ ∀ l ∈ Ls, HrsOk l) ⟨d1, [], rfl, k1, rfl, fun l h => by cases h⟩ fun i a s ha hI => by
      obtain ⟨dk, Ls, rfl, kd, ln, ok⟩ := hI
      rw [Nat.zero_add] at kd ln ⊢
      have hi := (List.getElem?_eq_some_iff.mp ha).1
      rw [List.length_map] at hi
      obtain ⟨d', l, e, k', q⟩ := lists_step hM kd (by omega) hlw Ls (by omega) a
      refine ⟨_, e, d', Ls ++ [l], rfl, k'.mono (by omega), by rw [List.length_append, ln]; rfl, fun x hx => ?_⟩
      rcases List.mem_append.mp hx with z | z
      · exact ok x z
      · rw [List.mem_singleton.mp z]; exact q
  rw [Nat.zero_add, List.length_map] at kd ln
  refine ⟨Ls, dk, ?_, kd.mono (by omega), ⟨by omega, ok⟩, ln⟩
  simp -implicitDefEqProofs only [f__law_lists, p6, s1, h1, e1, i2, xSeqT, f1, xTupL, Option.bind_some]
theorem law_list_text {l : List Nat} (h : HrsOk l) : f__law_list_text (hrsD l) = some (txD (hrsTx l)) := by
  obtain ⟨e1, e2⟩ := or_ok (s := [44]) (w := [45]) (ps := l.map TL.numL) (m := 7) (fun p hp => by
    obtain ⟨n, hn, rfl⟩ := List.mem_map.mp hp
    exact num_len (h.low n hn)) (fun p hp => by
    obtain ⟨n, _, rfl⟩ := List.mem_map.mp hp
    exact num_ne n) (by decide) (by rw [List.length_map]; have := h.few; omega)
  have m2 : mapS (l.map natD) C__law_list_text_1 = some ((l.map TL.numL).map txD) := by
    rw [List.map_map]
    exact mapS_of fun n hn => by simp only [C__law_list_text_1, (str_txN (h.low n hn)).1, Option.bind_some]; rfl
  simp -implicitDefEqProofs only [f__law_list_text, hrsD, xSeqT, m2, dash_tx, comma_tx, e1, truS, Option.bind_some]
  rw [e2]; rfl
theorem law_lists_text {Ls : List (List Nat)} (h : LstsOk Ls) : f__law_lists_text (.tuple (Ls.map hrsD)) = some (txD (lstsTx Ls)) := by
  have hm : ∀ p ∈ Ls.map hrsTx, p.length ≤ 164 := fun p hp => by
    obtain ⟨l, hl, rfl⟩ := List.mem_map.mp hp
    exact hrs_len (h.ok l hl)
  have ne : ∀ p ∈ Ls.map hrsTx, p ≠ [] := fun p hp => by
    obtain ⟨l, _, rfl⟩ := List.mem_map.mp hp
    exact hrs_ne l
  have k : (Ls.map hrsTx).length * (164 + 1) ≤ 1000000 := by rw [List.length_map]; have := h.few; omega
  obtain ⟨e1, e2⟩ := or_ok (s := [32]) (w := wNone) hm ne (by decide) k
  have m2 : mapS (Ls.map hrsD) C__law_lists_text_1 = some ((Ls.map hrsTx).map txD) := by
    rw [List.map_map]
    exact mapS_of fun l hl => by simp only [C__law_lists_text_1, law_list_text (h.ok l hl), Option.bind_some]; rfl
  simp -implicitDefEqProofs only [f__law_lists_text, xSeqT, m2, none_tx, space_tx, e1, truS, Option.bind_some]
  rw [e2]; rfl
theorem lstsTx_tx {Ls : List (List Nat)} (lo : LstsOk Ls) : Sm (lstsTx Ls) ∧ (lstsTx Ls).length ≤ 2700 := by
  constructor
  · exact sm_or (sm_of (by decide)) (sm_of (by decide)) fun p hp => by
      obtain ⟨q, _, rfl⟩ := List.mem_map.mp hp
      exact sm_or (sm_of (by decide)) (sm_of (by decide)) fun p hp => by
        obtain ⟨n, _, rfl⟩ := List.mem_map.mp hp
        exact sm_num n
  · have := orW_len (s := [32]) (w := wNone) (ps := Ls.map hrsTx) (m := 164) (fun p hp => by
      obtain ⟨l, hl, rfl⟩ := List.mem_map.mp hp
      exact hrs_len (lo.ok l hl)) (by decide) (by decide)
    rw [List.length_map] at this
    have := lo.few
    unfold lstsTx
    omega
def litL : List PyData := [.str "1000000", .str "1000001", .str "", .str "none", .str "none none", .str "- none", .str "5,6 none", .str "6,5", .str "5,5", .str "05", .str "5,", .str ",5", .str "-1", .str "--", .str "+5,6", .str "1_0", .str "5,+6", .str "5 1_0"]
theorem lits : ∀ v ∈ litL, Tx 60000 v := by
  have h : (litL.all fun v => match v with
      | .str z => (TL.tl z).all (fun c => decide (c < 256)) && decide ((TL.tl z).length ≤ 60000)
      | _ => false) = true := by decide +kernel
  intro v hv
  have b := List.all_eq_true.mp h v hv
  cases v with
  | str z =>
    have b : ((TL.tl z).all (fun c => decide (c < 256)) && decide ((TL.tl z).length ≤ 60000)) = true := b
    rw [Bool.and_eq_true, decide_eq_true_eq] at b
    exact ⟨TL.tl z, by rw [txD, tx_tl], sm_of b.1, b.2⟩
  | _ => cases b
theorem spoil_step {k : Nat} {dk : PyData} (hd : Deck k dk) (hk : k ≤ 800000000) {l : List Nat} (hs : Sm l) (hl : l.length ≤ 3000) (vs : List PyData) (hv : vs.length ≤ 900) (x : PyData) :
    ∃ v d', L_law_2 (txD l) x (dk, .list vs) = some (d', .list (vs ++ [v])) ∧ Tx 60000 v ∧ Deck (k + 9) d' := by
  obtain ⟨v1, d1, h1, ⟨l1, rfl, s1, n1⟩, k1⟩ := spoilt_ok hd (by omega) hs (by omega)
  obtain ⟨r, d2, h2, k2, r0, r1⟩ := draw_ok k1 (by omega) 3 (by omega) (by omega)
  have e : gEq (.int r) (.int 0) = some (.bool (decide (r = 0))) := xEq
  have ap : ∀ v, gApp (.list vs) v = some (.list (vs ++ [v])) := fun v => xApp (by omega)
  by_cases c : r = 0
  · obtain ⟨v3, d3, h3, t3, k3⟩ := spoilt_ok k2 (by omega) s1 (by omega)
    refine ⟨v3, d3, ?_, t3.mono (by omega), k3.mono (by omega)⟩
    simp -implicitDefEqProofs only [L_law_2, h1, h2, e, decide_eq_true c, asB_bool, if_true, h3, ap, Option.bind_some]
  · refine ⟨txD l1, d2, ?_, ⟨l1, rfl, s1, by omega⟩, k2.mono (by omega)⟩
    simp -implicitDefEqProofs only [L_law_2, h1, h2, e, decide_eq_false c, asB_bool, Bool.false_eq_true, if_false, ap, Option.bind_some]
def longT : List Nat := TL.joinL [44] ((List.range 20).map TL.numL)
theorem dashes {k : Nat} (hk : k ≤ 17) : gMul (.list [.str "-"]) (.int ((k : Nat) : Int)) = some (.list ((List.replicate k [45]).map txD)) ∧ gJoin (.str " ") (.list ((List.replicate k [45]).map txD)) = some (txD (TL.joinL [32] (List.replicate k [45]))) ∧ Sm (TL.joinL [32] (List.replicate k [45])) ∧ (TL.joinL [32] (List.replicate k [45])).length ≤ 60000 := by
  have s : ((List.replicate k [45]).map (·.length)).sum = k := by rw [List.map_replicate, List.sum_replicate_nat]; simp
  refine ⟨?_, ?_, sm_join (sm_of (by decide)) fun p hp => by rw [List.eq_of_mem_replicate hp]; exact sm_of (by decide), ?_⟩
  · rw [dash_tx]
    unfold gMul
    refine (if_pos ⟨by omega, by omega, by rw [sizeLine_eq, Int.toNat_natCast]; show 1 * k ≤ _; omega⟩).trans ?_
    rw [List.map_replicate, Int.toNat_natCast]
    have : ∀ n : Nat, (List.replicate n [txD [45]]).flatten = List.replicate n (txD [45]) := fun n => by
      induction n with
      | zero => rfl
      | succ n ih => rw [List.replicate_succ, List.flatten_cons, ih, List.replicate_succ]; rfl
    rw [this]
  · rw [space_tx]
    exact join_ok (by rw [s, List.length_replicate, List.length_singleton]; omega)
  · have := join_len [32] (List.replicate k [45])
    rw [s, List.length_replicate, List.length_singleton] at this
    omega
theorem turn80 {k : Nat} {d : PyData} (hd : Deck k d) (hk : k ≤ 500000) (x : PyData) (sL : Sm longT) (lL : longT.length ≤ 1000) : ∃ d', L_law_1 (txD longT) x d = some (.nx, d') ∧ Deck (k + 4000) d' := by
  generalize longT = lg at *
  obtain ⟨R, d1, h1, k1, ok⟩ := roster_ok hd (by omega) 4 16 (by decide) (by decide) (by decide)
  have h1 : f__law_roster d (.int 4) (.int 16) = some (rosD R, d1) := h1
  obtain ⟨Ls, d2, h2, k2, lo, _⟩ := lists_ok (M := 12) (by decide) k1 (by omega) ok.len
  have h2 : f__law_lists d1 (rosD R) (.int 12) = some (.tuple (Ls.map hrsD), d2) := h2
  have rt := law_lists_text lo
  obtain ⟨sR, lR⟩ := lstsTx_tx lo
  generalize lstsTx Ls = tl at *
  obtain ⟨m16, j16, s16, n16⟩ := dashes (k := 16) (by decide)
  obtain ⟨m17, j17, s17, n17⟩ := dashes (k := 17) (by decide)
  have m16 : gMul (.list [.str "-"]) (.int 16) = _ := m16
  have m17 : gMul (.list [.str "-"]) (.int 17) = _ := m17
  generalize TL.joinL [32] (List.replicate 16 [45]) = w16 at *
  generalize TL.joinL [32] (List.replicate 17 [45]) = w17 at *
  have pre : (",20" : Str) = tx [44, 50, 48] := by decide +kernel
  have a20 : gAdd (txD lg) (.str ",20") = some (txD (lg ++ [44, 50, 48])) := by rw [pre]; exact addT (by show lg.length + 3 ≤ _; omega)
  have al := xAddL (xs := [txD tl, txD w16, txD w17, txD lg, txD (lg ++ [44, 50, 48]), .str "1000000", .str "1000001", .str ""]) (ys := [.str "none", .str "none none", .str "- none", .str "5,6 none", .str "6,5", .str "5,5", .str "05", .str "5,", .str ",5", .str "-1", .str "--"]) (by show (19 : Nat) ≤ 1000000; decide)
  have al2 := xAddLL (xs := [txD tl, txD w16, txD w17, txD lg, txD (lg ++ [44, 50, 48]), .str "1000000", .str "1000001", .str ""] ++ [.str "none", .str "none none", .str "- none", .str "5,6 none", .str "6,5", .str "5,5", .str "05", .str "5,", .str ",5", .str "-1", .str "--"]) (ys := [.str "+5,6", .str "1_0", .str "5,+6", .str "5 1_0"]) (by show (23 : Nat) ≤ 1000000; decide)
  have e0 : ([txD tl, txD w16, txD w17, txD lg, txD (lg ++ [44, 50, 48]), .str "1000000", .str "1000001", .str ""] ++ [.str "none", .str "none none", .str "- none", .str "5,6 none", .str "6,5", .str "5,5", .str "05", .str "5,", .str ",5", .str "-1", .str "--"] ++ [.str "+5,6", .str "1_0", .str "5,+6", .str "5 1_0"] : List PyData) = txD tl :: txD w16 :: txD w17 :: txD lg :: txD (lg ++ [44, 50, 48]) :: litL := rfl
  rw [e0] at al2
  have t0 : ∀ v ∈ txD tl :: txD w16 :: txD w17 :: txD lg :: txD (lg ++ [44, 50, 48]) :: litL, Tx 60000 v := by
    intro v hv
    rcases List.mem_cons.mp hv with rfl | hv
    · exact ⟨_, rfl, sR, by omega⟩
    rcases List.mem_cons.mp hv with rfl | hv
    · exact ⟨_, rfl, s16, n16⟩
    rcases List.mem_cons.mp hv with rfl | hv
    · exact ⟨_, rfl, s17, n17⟩
    rcases List.mem_cons.mp hv with rfl | hv
    · exact ⟨_, rfl, sL, by omega⟩
    rcases List.mem_cons.mp hv with rfl | hv
    · exact ⟨_, rfl, sL.app (sm_of (by decide)), by rw [List.length_append]; show lg.length + 3 ≤ _; omega⟩
    exact lits v hv
  have n0 : (txD tl :: txD w16 :: txD w17 :: txD lg :: txD (lg ++ [44, 50, 48]) :: litL).length = 23 := rfl
  generalize txD tl :: txD w16 :: txD w17 :: txD lg :: txD (lg ++ [44, 50, 48]) :: litL = vs0 at *
  have rg : rng1 (.int 12) = some ((List.range 12).map natD) := rng1_ok (by decide) (by decide)
  obtain ⟨s', f1, dk, vs, rfl, kd, ln, tv⟩ := foldS_range (f := L_law_2 (txD tl)) (n := 12) (s := (d2, .list vs0))
    (fun i s => ∃ dk vs, s = (dk, .list vs) ∧ Deck (k + 2500 + 9 * i) dk ∧ vs.length = 23 + i ∧ ∀ v ∈ vs, Tx 60000 v) ⟨d2, vs0, rfl, k2.mono (by omega), n0, t0⟩ fun i s hi h => by
      obtain ⟨dk, vs, rfl, kd, ln, tv⟩ := h
      obtain ⟨v, d', e, t, k'⟩ := spoil_step kd (by omega) sR (by omega) vs (by omega) (natD i)
      refine ⟨_, e, d', vs ++ [v], rfl, k'.mono (by omega), by rw [List.length_append, ln]; rfl, fun y hy => ?_⟩
      rcases List.mem_append.mp hy with z | z
      · exact tv y z
      · rw [List.mem_singleton.mp z]; exact t
  obtain ⟨ov, d3, h3, go, k3⟩ := odd_ok kd (by omega)
  have ap := xAddL (xs := vs) (ys := [.none, .int 0, .bool true, .tuple [], .list [txD tl], .dict [], ov]) (by show vs.length + 7 ≤ 1000000; omega)
  have all : ∀ v ∈ vs ++ ([.none, .int 0, .bool true, .tuple [], .list [txD tl], .dict [], ov] : List PyData), Good v := by
    intro v hv
    rcases List.mem_append.mp hv with hv | hv
    · exact .inl (tv v hv)
    rcases List.mem_cons.mp hv with rfl | hv
    · exact .inr ⟨rfl, ⟨rfl, by decide, by decide⟩⟩
    rcases List.mem_cons.mp hv with rfl | hv
    · exact .inr ⟨rfl, ⟨rfl, by decide, by decide⟩⟩
    rcases List.mem_cons.mp hv with rfl | hv
    · exact .inr ⟨rfl, ⟨rfl, by decide, by decide⟩⟩
    rcases List.mem_cons.mp hv with rfl | hv
    · exact .inr ⟨rfl, (VlL.nil (n := 2) (s := 0)).tuple.mono (by decide) (by decide)⟩
    rcases List.mem_cons.mp hv with rfl | hv
    · exact .inr ⟨rfl, (VlL.cons (vl_txt (n := 4) (s := 40000) sR (by omega)) (VlL.nil (s := 0))).list.mono (by decide) (by decide)⟩
    rcases List.mem_cons.mp hv with rfl | hv
    · exact odd_good _ (by simp [oddL])
    rw [List.mem_singleton.mp hv]
    exact go
  have lp := forS_all (f := L_law_3) fun v hv => one_ok (all v hv)
  refine ⟨d3, ?_, k3.mono (by omega)⟩
  simp -implicitDefEqProofs only [L_law_1, h1, h2, rt, m16, j16, m17, j17, a20, al, al2, rg, f1, h3, ap, xSeqL, lp, thenS_nx, Option.bind_some]
theorem law_true (ns : List Int) (h : ns.length ≤ 63) : ∃ fs, F_law [.list (ns.map .int)] = some (.bool true, fs) := by
  obtain ⟨d, h1, k1⟩ := state_ok ns h
  have r20 : rng1 (.int 20) = some ((List.range 20).map natD) := rng1_ok (by decide) (by decide)
  have mp : mapS ((List.range 20).map natD) C_law_1 = some (((List.range 20).map TL.numL).map txD) := by
    rw [List.map_map]
    exact mapS_of fun n hn => by simp only [C_law_1, (str_txN (n := n) (by have := List.mem_range.mp hn; omega)).1, Option.bind_some]; rfl
  have sm : ∀ p ∈ (List.range 20).map TL.numL, Sm p ∧ p.length ≤ 7 := fun p hp => by
    obtain ⟨n, hn, rfl⟩ := List.mem_map.mp hp
    exact ⟨sm_num n, num_len (by have := List.mem_range.mp hn; omega)⟩
  have su := sum_le fun p hp => (sm p hp).2
  rw [List.length_map, List.length_range] at su
  have jn : gJoin (.str ",") (.list (((List.range 20).map TL.numL).map txD)) = some (txD longT) := by
    rw [comma_tx]
    exact join_ok (by rw [List.length_map, List.length_range, List.length_singleton]; omega)
  have sL : Sm longT := sm_join (sm_of (by decide)) fun p hp => (sm p hp).1
  have lL : longT.length ≤ 1000 := by
    have := join_len [44] ((List.range 20).map TL.numL)
    rw [List.length_map, List.length_range, List.length_singleton] at this
    unfold longT
    omega
  have r : rng1 (.int 6) = some ((List.range 6).map natD) := rng1_ok (by decide) (by decide)
  obtain ⟨s', h2, _⟩ := forS_range (f := L_law_1 (txD longT)) (n := 6) (s := d) (fun i s => Deck (4000 * i) s) k1 fun i s hi hs => by
    obtain ⟨d', e, k'⟩ := turn80 hs (by omega) (natD i) sL lL
    exact ⟨d', e, k'.mono (by omega)⟩
  rw [f_law_eq]
  have : f_law (.list (ns.map .int)) = some (.bool true) := by
    simp -implicitDefEqProofs only [f_law, h1, r20, mp, jn, Option.bind_some, r, h2, thenS_nx]
  rw [this]
  exact ⟨_, rfl⟩
end LK
namespace LK
open PySem L2 PySem.Spec PyProof.Rows DL
section
variable {P : Program} {w : World} {K : PySem.W.Frag} {mg : Str → Option Value} {base : Heap}
theorem cal__law_state (z_abs : mg "abs" = none) (z_len : mg "len" = none) {f : Addr} {fd : FuncData} (F : L2.Fun K "_law_state" "_law_state" st__law_state f fd) (hm : mg "_law_state" = some (.ref f)) (b : Binds K fd ["_law_script"] []) : CalG P w K mg base 1 "_law_state" [.q] (.r [(.l .s), (.l .s), .s]) F__law_state :=
  ⟨f, fd, ["_law_script"], fnG_dl (sf := S__law_state) (mr := [.u, .u, .u]) (po := []) (r := 2) F sc__law_state rfl rfl (.stb rfl (.nil _ _)) (.inr (nnx_seq nnx_ret)) (fun cdv A outer s H E _ _ _ =>
      ss_cons (ds_setLc 1 [("_law_cell", 2)] (pi_q 0) (pg_nm 2) (pts_no) (pd_b1 clAbs z_abs bt_abs (pd_var 2)))
      (ss_one (ds_ret (pd_rec (pl_cons (pd_lc [("_law_cell", 2)] (pi_seq (pd_frzVar 1)) (pg_nm 2) (pts_if (pb_cmp opGe (pd_var 2) (pd_bin opPow (pd_int) (pd_int)))) (pd_var 2)) (pl_cons (pd_bin opAddL (pd_var 1) (pd_frz (pd_lst (k := 1) .s (pl_cons (pd_bin opAdd (pd_b1 clLen z_len bt_len (pd_var 1)) (pd_int)) (pl_nil))))) (pl_cons (pd_int) (pl_nil))))) (.cons (.u _) (.cons (.u _) (.cons (.rfl _) .nil)))))), hm, F.kp, b⟩
theorem cal__law_draw (z_len : mg "len" = none) {f : Addr} {fd : FuncData} (F : L2.Fun K "_law_draw" "_law_draw" st__law_draw f fd) (hm : mg "_law_draw" = some (.ref f)) (b : Binds K fd ["_law_state_here", "_law_limit"] []) : CalG P w K mg base 1 "_law_draw" [(.r [(.l .s), (.l .s), .s]), .s] .s F__law_draw :=
  ⟨f, fd, ["_law_state_here", "_law_limit"], fnG_dl (sf := S__law_draw) (mr := [(.r [(.l .s), (.l .s), .s]), .u, .u, .u, .u]) (po := [0]) (r := 3) F sc__law_draw rfl rfl (.own (by decide) (.stb rfl (.nil _ _))) (.inl rfl) (fun cdv A outer s H E _ _ _ =>
      ss_cons (ds_pre [2] (ds_wh fuel [(.r [(.l .s), (.l .s), .s]), .s, .u, .u, .u] (.cons (.rfl _) (.cons (.rfl _) (.cons (.rfl _) (.cons (.rfl _) (.cons (.rfl _) .nil))))) (pb_qcmp opNe (pq_ix ixAny (pq_var 0) (pq_int)) (pq_nil))
        (ss_post [2] [1, 2, 3, 4] (ss_le (ss_cons (ds_asg 2 (pd_itm (pp_fld 0 (pp_var 0)) (pq_int)))
      (ss_cons (ds_if (pb_cmp opGt (pd_var 2) (pd_int))
        (ss_cons (ds_setL (pd_bin opFdiv (pd_var 2) (pd_var 1)) (pp_fld 0 (pp_var 0)) (pq_int))
      (ss_one (ds_ret (pd_bin opMod (pd_var 2) (pd_var 1)) (.cons (.rfl _) (.cons (.u _) (.cons (.u _) (.cons (.rfl _) (.cons (.rfl _) .nil))))))))
        (ss_nil))
      (ss_one (ds_drop (pd_popAt (pp_fld 0 (pp_var 0)) (pq_int)))))) (.cons (.rfl _) (.cons (.rfl _) (.cons (.u _) (.cons (.rfl _) (.cons (.rfl _) .nil))))))) (.cons (.rfl _) (.cons (.rfl _) (.cons (.rfl _) (.cons (.rfl _) (.cons (.rfl _) .nil)))))) (.cons (.rfl _) (.cons (.rfl _) (.cons (.rfl _) (.cons (.rfl _) (.cons (.rfl _) .nil))))))
      (ss_cons (ds_setR 2 (pd_bin opAdd (pd_q (pq_ix ixAny (pq_var 0) (pq_int))) (pd_int)) (pp_var 0))
      (ss_cons (ds_asg 3 (pd_bin opMod (pd_itm (pp_fld 1 (pp_var 0)) (pq_bin opMod (pq_ix ixAny (pq_var 0) (pq_int)) (pq_b1 clLen z_len bt_len (pq_ix ixAny (pq_var 0) (pq_int))))) (pd_int)))
      (ss_cons (ds_asg 4 (pd_bin opAdd (pd_bin opMul (pd_var 3) (pd_bin opAdd (pd_int) (pd_bin opMul (pd_int) (pd_q (pq_ix ixAny (pq_var 0) (pq_int)))))) (pd_int)))
      (ss_cons (ds_asg 4 (pd_bin opMod (pd_bin opAdd (pd_var 4) (pd_bin opMul (pd_bin opMul (pd_int) (pd_q (pq_ix ixAny (pq_var 0) (pq_int)))) (pd_q (pq_ix ixAny (pq_var 0) (pq_int))))) (pd_int)))
      (ss_one (ds_ret (pd_bin opMod (pd_bin opFdiv (pd_bin opMod (pd_bin opMul (pd_var 4) (pd_var 4)) (pd_int)) (pd_int)) (pd_var 1)) (.cons (.rfl _) (.cons (.u _) (.cons (.rfl _) (.cons (.u _) (.cons (.u _) .nil)))))))))))), hm, F.kp, b⟩
theorem cal__law_pick (c__law_draw : CalG P w K mg base 1 "_law_draw" [(.r [(.l .s), (.l .s), .s]), .s] .s F__law_draw) (z_len : mg "len" = none) {f : Addr} {fd : FuncData} (F : L2.Fun K "_law_pick" "_law_pick" st__law_pick f fd) (hm : mg "_law_pick" = some (.ref f)) (b : Binds K fd ["_law_state_here", "_law_items"] []) : CalG P w K mg base 2 "_law_pick" [(.r [(.l .s), (.l .s), .s]), (.l .s)] .s F__law_pick :=
  ⟨f, fd, ["_law_state_here", "_law_items"], fnG_dl (sf := S__law_pick) (mr := [(.r [(.l .s), (.l .s), .s]), (.l .s)]) (po := [0, 1]) (r := 0) F sc__law_pick rfl rfl (.own (by decide) (.own (by decide) (.nil _ _))) (.inl rfl) (fun cdv A outer s H E _ _ _ =>
      ss_one (ds_ret (pd_itmG 1 (pd_callL (kk := 0) (j := 0) c__law_draw (pl_lend 0 (pl_cons (pd_q (pq_b1 clLen z_len bt_len (pq_var 1))) (pl_nil))))) (.cons (.rfl _) (.cons (.rfl _) .nil)))), hm, F.kp, b⟩
theorem cal__law_roster (c__law_draw : CalG P w K mg base 1 "_law_draw" [(.r [(.l .s), (.l .s), .s]), .s] .s F__law_draw) (c__law_pick : CalG P w K mg base 2 "_law_pick" [(.r [(.l .s), (.l .s), .s]), (.l .s)] .s F__law_pick) (z_range : mg "range" = none) (z_tuple : mg "tuple" = none) {f : Addr} {fd : FuncData} (F : L2.Fun K "_law_roster" "_law_roster" st__law_roster f fd) (hm : mg "_law_roster" = some (.ref f)) (b : Binds K fd ["_law_state_here", "_law_people", "_law_most"] []) : CalG P w K mg base 3 "_law_roster" [(.r [(.l .s), (.l .s), .s]), .s, .s] .s F__law_roster :=
  ⟨f, fd, ["_law_state_here", "_law_people", "_law_most"], fnG_dl (sf := S__law_roster) (mr := [(.r [(.l .s), (.l .s), .s]), .u, .u, .u, .u, .u, .u, .u, .u]) (po := [0]) (r := 6) F sc__law_roster rfl rfl (.own (by decide) (.stb rfl (.stb rfl (.nil _ _)))) (.inl rfl) (fun cdv A outer s H E _ _ _ =>
      ss_cons (ds_par 3 4 (pl_cons (pd_bin opAdd (pd_int) (pd_callL (kk := 0) (j := 0) c__law_draw (pl_lend 0 (pl_cons (pd_var 1) (pl_nil))))) (pl_cons (pd_bin opAdd (pd_int) (pd_callL (kk := 0) (j := 0) c__law_draw (pl_lend 0 (pl_cons (pd_var 1) (pl_nil))))) (pl_nil))))
      (ss_cons (ds_parT 5 6 (pl_cons (pd_callL (kk := 0) (j := 0) c__law_draw (pl_lend 0 (pl_cons (pd_int) (pl_nil)))) (pl_cons (pd_lst (k := 0) .s (pl_nil)) (pl_nil))))
      (ss_cons (ds_for [(.r [(.l .s), (.l .s), .s]), .s, .s, .s, .s, .s, (.l .s), .u, .u] (pi_fg [7, 8] (pi_r1 z_range (pd_callL (kk := 0) (j := 0) c__law_draw (pl_lend 0 (pl_cons (pd_bin opAdd (pd_var 2) (pd_int)) (pl_nil))))) (.cons (.rfl _) (.cons (.rfl _) (.cons (.rfl _) (.cons (.rfl _) (.cons (.rfl _) (.cons (.rfl _) (.cons (.rfl _) (.cons (.rfl _) (.cons (.rfl _) .nil)))))))))) (.cons (.rfl _) (.cons (.rfl _) (.cons (.rfl _) (.cons (.rfl _) (.cons (.rfl _) (.cons (.rfl _) (.cons (.rfl _) (.cons (.rfl _) (.cons (.rfl _) .nil))))))))) (pg_nm 7)
        (ss_post [7, 8] [1, 2, 3, 4, 5, 6, 7, 8] (ss_le (ss_cons (ds_asg 8 (pd_tup (k := 2) (pl_cons (pd_callL (kk := 0) (j := 0) c__law_draw (pl_lend 0 (pl_cons (pd_var 3) (pl_nil)))) (pl_cons (pd_callL (kk := 0) (j := 0) c__law_draw (pl_lend 0 (pl_cons (pd_var 4) (pl_nil)))) (pl_nil)))))
      (ss_cons (ds_if (pb_w (pbw_and (pb_cmp opEq (pd_var 5) (pd_int)) (pbw_and1 (pb_cmp opEq (pd_callL (kk := 0) (j := 0) c__law_draw (pl_lend 0 (pl_cons (pd_int) (pl_nil)))) (pd_int)))))
        (ss_one (ds_asg 8 (pd_tup (k := 2) (pl_cons (pd_int) (pl_cons (pd_ix ixAny (pd_var 8) (pd_int)) (pl_nil))))))
        (ss_nil))
      (ss_cons (ds_if (pb_w (pbw_and (pb_cmp opEq (pd_var 5) (pd_int)) (pbw_and1 (pb_cmp opEq (pd_callL (kk := 0) (j := 0) c__law_draw (pl_lend 0 (pl_cons (pd_int) (pl_nil)))) (pd_int)))))
        (ss_one (ds_asg 8 (pd_tup (k := 2) (pl_cons (pd_ix ixAny (pd_var 8) (pd_int)) (pl_cons (pd_bin opSub (pd_var 4) (pd_int)) (pl_nil))))))
        (ss_nil))
      (ss_cons (ds_if (pb_w (pbw_and (pb_cmp opEq (pd_var 5) (pd_int)) (pbw_and (pb_qcmp opNe (pq_var 6) (pq_nil)) (pbw_and1 (pb_cmp opEq (pd_callL (kk := 0) (j := 0) c__law_draw (pl_lend 0 (pl_cons (pd_int) (pl_nil)))) (pd_int))))))
        (ss_one (ds_asg 8 (pd_callL2 (k1 := 0) (j1 := 0) (k2 := 1) (j2 := 6) c__law_pick (pl_lend 0 (pl_lend 6 (pl_nil))))))
        (ss_nil))
      (ss_one (ds_drop (pd_app 6 (pd_var 8)))))))) (.cons (.rfl _) (.cons (.rfl _) (.cons (.rfl _) (.cons (.rfl _) (.cons (.rfl _) (.cons (.rfl _) (.cons (.rfl _) (.cons (.u _) (.cons (.u _) .nil))))))))))) (.cons (.rfl _) (.cons (.rfl _) (.cons (.rfl _) (.cons (.rfl _) (.cons (.rfl _) (.cons (.rfl _) (.cons (.rfl _) (.cons (.rfl _) (.cons (.rfl _) .nil))))))))))
      (ss_one (ds_ret (pd_tup (k := 3) (pl_cons (pd_var 3) (pl_cons (pd_var 4) (pl_cons (pd_t1 clTuple z_tuple bt_tuple (pd_frzVar 6)) (pl_nil))))) (.cons (.rfl _) (.cons (.u _) (.cons (.u _) (.cons (.u _) (.cons (.u _) (.cons (.u _) (.cons (.u _) (.cons (.rfl _) (.cons (.rfl _) .nil)))))))))))))), hm, F.kp, b⟩
theorem cal__law_list_text (z_str : mg "str" = none) {f : Addr} {fd : FuncData} (F : L2.Fun K "_law_list_text" "_law_list_text" st__law_list_text f fd) (hm : mg "_law_list_text" = some (.ref f)) (b : Binds K fd ["_law_hours"] []) : CalG P w K mg base 1 "_law_list_text" [.s] .s F__law_list_text :=
  ⟨f, fd, ["_law_hours"], fnG_dl (sf := S__law_list_text) (mr := [.u, .u]) (po := []) (r := 1) F sc__law_list_text rfl rfl (.stb rfl (.nil _ _)) (.inl rfl) (fun cdv A outer s H E _ _ _ =>
      ss_one (ds_ret (pd_orT (pd_join (pd_str) (pd_frz (pd_lc [("_law_hour", 1)] (pi_seq (pd_var 0)) (pg_nm 1) (pts_no) (pd_t1 clStr z_str bt_str (pd_var 1))))) (pd_or1 (pd_str))) (.cons (.u _) (.cons (.rfl _) .nil)))), hm, F.kp, b⟩
theorem cal__law_lists_text (c__law_list_text : CalG P w K mg base 1 "_law_list_text" [.s] .s F__law_list_text) {f : Addr} {fd : FuncData} (F : L2.Fun K "_law_lists_text" "_law_lists_text" st__law_lists_text f fd) (hm : mg "_law_lists_text" = some (.ref f)) (b : Binds K fd ["_law_lists_here"] []) : CalG P w K mg base 2 "_law_lists_text" [.s] .s F__law_lists_text :=
  ⟨f, fd, ["_law_lists_here"], fnG_dl (sf := S__law_lists_text) (mr := [.u, .u]) (po := []) (r := 1) F sc__law_lists_text rfl rfl (.stb rfl (.nil _ _)) (.inl rfl) (fun cdv A outer s H E _ _ _ =>
      ss_one (ds_ret (pd_orT (pd_join (pd_str) (pd_frz (pd_lc [("_law_hours", 1)] (pi_seq (pd_var 0)) (pg_nm 1) (pts_no) (pd_call c__law_list_text (pl_cons (pd_var 1) (pl_nil)))))) (pd_or1 (pd_str))) (.cons (.u _) (.cons (.rfl _) .nil)))), hm, F.kp, b⟩
theorem cal__law_lists (c__law_draw : CalG P w K mg base 1 "_law_draw" [(.r [(.l .s), (.l .s), .s]), .s] .s F__law_draw) (z_range : mg "range" = none) (z_tuple : mg "tuple" = none) (z_sorted : mg "sorted" = none) (z_set : mg "set" = none) {f : Addr} {fd : FuncData} (F : L2.Fun K "_law_lists" "_law_lists" st__law_lists f fd) (hm : mg "_law_lists" = some (.ref f)) (b : Binds K fd ["_law_state_here", "_law_roster_here", "_law_most"] []) : CalG P w K mg base 2 "_law_lists" [(.r [(.l .s), (.l .s), .s]), .s, .s] .s F__law_lists :=
  ⟨f, fd, ["_law_state_here", "_law_roster_here", "_law_most"], fnG_dl (sf := S__law_lists) (mr := [(.r [(.l .s), (.l .s), .s]), .u, .u, .u, .u, .u, .u, .u]) (po := [0]) (r := 5) F sc__law_lists rfl rfl (.own (by decide) (.stb rfl (.stb rfl (.nil _ _)))) (.inl rfl) (fun cdv A outer s H E _ _ _ =>
      ss_cons (ds_asg 3 (pd_ix ixAny (pd_frz (pd_lst (k := 4) .s (pl_cons (pd_int) (pl_cons (pd_int) (pl_cons (pd_int) (pl_cons (pd_bin opSub (pd_bin opPow (pd_int) (pd_int)) (pd_int)) (pl_nil))))))) (pd_callL (kk := 0) (j := 0) c__law_draw (pl_lend 0 (pl_cons (pd_int) (pl_nil))))))
      (ss_cons (ds_asg 4 (pd_lst (k := 0) .s (pl_nil)))
      (ss_cons (ds_for [(.r [(.l .s), (.l .s), .s]), .s, .s, .s, (.l .s), .u, .u, .u] (pi_fg [5, 6] (pi_seq (pd_ix ixAny (pd_var 1) (pd_int))) (.cons (.rfl _) (.cons (.rfl _) (.cons (.rfl _) (.cons (.rfl _) (.cons (.rfl _) (.cons (.rfl _) (.cons (.rfl _) (.cons (.rfl _) .nil))))))))) (.cons (.rfl _) (.cons (.rfl _) (.cons (.rfl _) (.cons (.rfl _) (.cons (.rfl _) (.cons (.rfl _) (.cons (.rfl _) (.cons (.rfl _) .nil)))))))) (pg_nm 5)
        (ss_post [5, 6] [1, 2, 3, 4, 5, 6, 7] (ss_le (ss_cons (ds_setLc 6 [("_law_k", 7)] (pi_r1 z_range (pd_callL (kk := 0) (j := 0) c__law_draw (pl_lend 0 (pl_cons (pd_bin opAdd (pd_var 2) (pd_int)) (pl_nil))))) (pg_nm 7) (pts_no) (pd_bin opAdd (pd_var 3) (pd_callL (kk := 0) (j := 0) c__law_draw (pl_lend 0 (pl_cons (pd_int) (pl_nil))))))
      (ss_one (ds_drop (pd_app 4 (pd_slice (pd_t1 clTuple z_tuple bt_tuple (pd_frz (pd_sortSet z_sorted bt_sorted z_set bt_set (pd_frzVar 6)))) (pp_none) (pp_some (pd_int))))))) (.cons (.rfl _) (.cons (.rfl _) (.cons (.rfl _) (.cons (.rfl _) (.cons (.rfl _) (.cons (.u _) (.cons (.u _) (.cons (.rfl _) .nil)))))))))) (.cons (.rfl _) (.cons (.rfl _) (.cons (.rfl _) (.cons (.rfl _) (.cons (.rfl _) (.cons (.rfl _) (.cons (.rfl _) (.cons (.rfl _) .nil)))))))))
      (ss_one (ds_ret (pd_t1 clTuple z_tuple bt_tuple (pd_frzVar 4)) (.cons (.rfl _) (.cons (.u _) (.cons (.u _) (.cons (.u _) (.cons (.u _) (.cons (.rfl _) (.cons (.rfl _) (.cons (.rfl _) .nil))))))))))))), hm, F.kp, b⟩
theorem cal__law_spoilt (c__law_draw : CalG P w K mg base 1 "_law_draw" [(.r [(.l .s), (.l .s), .s]), .s] .s F__law_draw) (z_len : mg "len" = none) {f : Addr} {fd : FuncData} (F : L2.Fun K "_law_spoilt" "_law_spoilt" st__law_spoilt f fd) (hm : mg "_law_spoilt" = some (.ref f)) (b : Binds K fd ["_law_state_here", "_law_text"] []) : CalG P w K mg base 2 "_law_spoilt" [(.r [(.l .s), (.l .s), .s]), .s] .s F__law_spoilt :=
  ⟨f, fd, ["_law_state_here", "_law_text"], fnG_dl (sf := S__law_spoilt) (mr := [(.r [(.l .s), (.l .s), .s]), .u, .u, .u, .u, .u, .u]) (po := [0]) (r := 5) F sc__law_spoilt rfl rfl (.own (by decide) (.stb rfl (.nil _ _))) (.inl rfl) (fun cdv A outer s H E _ _ _ =>
      ss_cons (ds_asg 2 (pd_callL (kk := 0) (j := 0) c__law_draw (pl_lend 0 (pl_cons (pd_bin opAdd (pd_b1 clLen z_len bt_len (pd_var 1)) (pd_int)) (pl_nil)))))
      (ss_cons (ds_asg 3 (pd_ix ixAny (pd_str) (pd_callL (kk := 0) (j := 0) c__law_draw (pl_lend 0 (pl_cons (pd_int) (pl_nil))))))
      (ss_cons (ds_asg 4 (pd_frz (pd_split (pd_var 1) (pd_str))))
      (ss_cons (ds_asg 5 (pd_callL (kk := 0) (j := 0) c__law_draw (pl_lend 0 (pl_cons (pd_b1 clLen z_len bt_len (pd_var 4)) (pl_nil)))))
      (ss_cons (ds_asg 6 (pd_frz (pd_lst (k := 4) .s (pl_cons (pd_bin opAdd (pd_bin opAdd (pd_slice (pd_var 1) (pp_none) (pp_some (pd_var 2))) (pd_var 3)) (pd_slice (pd_var 1) (pp_some (pd_var 2)) (pp_none))) (pl_cons (pd_bin opAdd (pd_bin opAdd (pd_slice (pd_var 1) (pp_none) (pp_some (pd_var 2))) (pd_var 3)) (pd_slice (pd_var 1) (pp_some (pd_bin opAdd (pd_var 2) (pd_int))) (pp_none))) (pl_cons (pd_bin opAdd (pd_slice (pd_var 1) (pp_none) (pp_some (pd_var 2))) (pd_slice (pd_var 1) (pp_some (pd_bin opAdd (pd_var 2) (pd_int))) (pp_none))) (pl_cons (pd_slice (pd_var 1) (pp_none) (pp_some (pd_var 2))) (pl_nil))))))))
      (ss_cons (ds_asg 6 (pd_bin opAdd (pd_var 6) (pd_frz (pd_lst (k := 4) .s (pl_cons (pd_join (pd_str) (pd_bin opAdd (pd_slice (pd_var 4) (pp_none) (pp_some (pd_var 5))) (pd_slice (pd_var 4) (pp_some (pd_bin opAdd (pd_var 5) (pd_int))) (pp_none)))) (pl_cons (pd_join (pd_str) (pd_bin opAdd (pd_slice (pd_var 4) (pp_none) (pp_some (pd_bin opAdd (pd_var 5) (pd_int)))) (pd_slice (pd_var 4) (pp_some (pd_var 5)) (pp_none)))) (pl_cons (pd_bin opAdd (pd_var 1) (pd_str)) (pl_cons (pd_bin opAdd (pd_str) (pd_var 1)) (pl_nil)))))))))
      (ss_cons (ds_asg 6 (pd_bin opAdd (pd_var 6) (pd_frz (pd_lst (k := 4) .s (pl_tok opAdd (pd_var 1) (plt_cons (pd_join (pd_str) (pd_bin opAdd (pd_bin opAdd (pd_slice (pd_var 4) (pp_none) (pp_some (pd_var 5))) (pd_frz (pd_lst (k := 1) .s (pl_cons (pd_str) (pl_nil))))) (pd_slice (pd_var 4) (pp_some (pd_bin opAdd (pd_var 5) (pd_int))) (pp_none)))) (plt_rep (pd_var 1) (plt_of (pl_cons (pd_backS (pd_var 1)) (pl_nil))))))))))
      (ss_one (ds_ret (pd_ix ixAny (pd_var 6) (pd_callL (kk := 0) (j := 0) c__law_draw (pl_lend 0 (pl_cons (pd_int) (pl_nil))))) (.cons (.rfl _) (.cons (.u _) (.cons (.u _) (.cons (.u _) (.cons (.u _) (.cons (.u _) (.cons (.u _) .nil)))))))))))))))), hm, F.kp, b⟩
theorem cal__law_odd (c__law_draw : CalG P w K mg base 1 "_law_draw" [(.r [(.l .s), (.l .s), .s]), .s] .s F__law_draw) {f : Addr} {fd : FuncData} (F : L2.Fun K "_law_odd" "_law_odd" st__law_odd f fd) (hm : mg "_law_odd" = some (.ref f)) (b : Binds K fd ["_law_state_here"] []) : CalG P w K mg base 2 "_law_odd" [(.r [(.l .s), (.l .s), .s])] .s F__law_odd :=
  ⟨f, fd, ["_law_state_here"], fnG_dl (sf := S__law_odd) (mr := [(.r [(.l .s), (.l .s), .s]), .u]) (po := [0]) (r := 1) F sc__law_odd rfl rfl (.own (by decide) (.nil _ _)) (.inl rfl) (fun cdv A outer s H E _ _ _ =>
      ss_cons (ds_asg 1 (pd_frz (pd_lst (k := 19) .s (pl_cons (pd_none) (pl_cons (pd_bool) (pl_cons (pd_bool) (pl_cons (pd_neg (pd_int)) (pl_cons (pd_int) (pl_cons (pd_int) (pl_cons (pd_int) (pl_cons (pd_int) (pl_cons (pd_bin opPow (pd_int) (pd_int)) (pl_cons (pd_bin opAdd (pd_bin opPow (pd_int) (pd_int)) (pd_int)) (pl_cons (pd_bin opPow (pd_int) (pd_int)) (pl_cons (pd_str) (pl_cons (pd_str) (pl_cons (pd_str) (pl_cons (pd_tup (k := 0) (pl_nil)) (pl_cons (pd_frz (pd_lst (k := 0) .s (pl_nil))) (pl_cons (pd_dic0) (pl_cons (pd_tup (k := 1) (pl_cons (pd_int) (pl_nil))) (pl_cons (pd_frz (pd_lst (k := 1) .s (pl_cons (pd_int) (pl_nil)))) (pl_nil)))))))))))))))))))))))
      (ss_one (ds_ret (pd_ix ixAny (pd_bin opAdd (pd_var 1) (pd_frz (pd_lst (k := 5) .s (pl_cons (pd_tup (k := 2) (pl_cons (pd_int) (pl_cons (pd_int) (pl_nil)))) (pl_cons (pd_tup (k := 2) (pl_cons (pd_int) (pl_cons (pd_int) (pl_nil)))) (pl_cons (pd_tup (k := 1) (pl_cons (pd_tup (k := 2) (pl_cons (pd_int) (pl_cons (pd_int) (pl_nil)))) (pl_nil))) (pl_cons (pd_tup (k := 1) (pl_cons (pd_bool) (pl_nil))) (pl_cons (pd_dic1) (pl_nil))))))))) (pd_callL (kk := 0) (j := 0) c__law_draw (pl_lend 0 (pl_cons (pd_int) (pl_nil))))) (.cons (.rfl _) (.cons (.u _) .nil))))), hm, F.kp, b⟩
theorem cal__law_same (z_repr : mg "repr" = none) {f : Addr} {fd : FuncData} (F : L2.Fun K "_law_same" "_law_same" st__law_same f fd) (hm : mg "_law_same" = some (.ref f)) (b : Binds K fd ["_law_found", "_law_due_here"] []) : CalG P w K mg base 1 "_law_same" [.s, .s] .s F__law_same :=
  ⟨f, fd, ["_law_found", "_law_due_here"], fnG_dl (sf := S__law_same) (mr := [.u, .u]) (po := []) (r := 0) F sc__law_same rfl rfl (.stb rfl (.stb rfl (.nil _ _))) (.inl rfl) (fun cdv A outer s H E _ _ _ =>
      ss_one (ds_ret (pd_cmp opEq (pd_b1 clRepr z_repr bt_repr (pd_var 0)) (pd_b1 clRepr z_repr bt_repr (pd_var 1))) (.cons (.u _) (.cons (.u _) .nil)))), hm, F.kp, b⟩
theorem cal_words_of_x (z_isinstance : mg "isinstance" = none) (z_str : mg "str" = none) (t_BadText : ExcT P w K mg base 1 "BadText" ["index"]) {f : Addr} {fd : FuncData} (F : L2.Fun K "words_of" "words_of" st_words_of f fd) (hm : mg "words_of" = some (.ref f)) (b : Binds K fd ["value"] []) : CalX P w K mg base 3 "words_of" [.s] .s (decF tb_words_of_x F_words_of_x) :=
  ⟨f, fd, ["value"], fnX_dlE tb_words_of_x (sf := S_words_of_x) (mr := [.u]) (mx := [.u]) (r := 0) F sc_words_of rfl rfl (nnx_seq ((by first | exact nnx_ret | exact nnx_retE | exact nnx_retE1))) (fun cdv A outer s H E _ _ _ _ =>
      exs_cons (ex_if (pb_not (pb_of (pd_isa "str" z_isinstance z_str bt_str (pd_var 0))))
        (exs_one (ex_raise ["index"] t_BadText (pl_cons (pd_none) (pl_nil)) (.cons (.u _) .nil)))
        (exs_of ss_nil nrt_nil))
      (exs_one (ex_ret (pd_frz (pd_split (pd_var 0) (pd_str))) (.cons (.u _) .nil)))), hm, F.kp, b⟩
theorem cal_number_in (z_len : mg "len" = none) (z_any : mg "any" = none) (z_int : mg "int" = none) {t_LONGEST : Tok} (g_LONGEST : mg "LONGEST" = some (.int 7 t_LONGEST)) {f : Addr} {fd : FuncData} (F : L2.Fun K "number_in" "number_in" st_number_in f fd) (hm : mg "number_in" = some (.ref f)) (b : Binds K fd ["word"] []) : CalG P w K mg base 1 "number_in" [.s] .s F_number_in :=
  ⟨f, fd, ["word"], fnG_dl (sf := S_number_in) (mr := [.u, .u]) (po := []) (r := 1) F sc_number_in rfl rfl (.stb rfl (.nil _ _)) (.inl rfl) (fun cdv A outer s H E _ _ _ =>
      ss_cons (ds_if (pb_w (pbw_or (pb_cmp opEq (pd_var 0) (pd_str)) (pbw_or (pb_cmp opGt (pd_b1 clLen z_len bt_len (pd_var 0)) (pd_gint g_LONGEST)) (pbw_or1 (pb_of (pd_b1 clAny z_any bt_any (pd_frz (pd_lc [("digit", 1)] (pi_chr (pd_var 0)) (pg_nm 1) (pts_no) (pd_cmp opNotInS (pd_var 1) (pd_str))))))))))
        (ss_one (ds_ret (pd_none) (.cons (.u _) (.cons (.rfl _) .nil))))
        (ss_nil))
      (ss_one (ds_ret (pd_ifexp (pb_w (pbw_and (pb_cmp opEq (pd_ix ixAny (pd_var 0) (pd_int)) (pd_str)) (pbw_and1 (pb_cmp opNe (pd_var 0) (pd_str))))) (pd_none) (pd_t1 clIntS z_int bt_int (pd_var 0))) (.cons (.u _) (.cons (.rfl _) .nil))))), hm, F.kp, b⟩
theorem cal_numbers_in (c_number_in : CalG P w K mg base 1 "number_in" [.s] .s F_number_in) (z_tuple : mg "tuple" = none) {f : Addr} {fd : FuncData} (F : L2.Fun K "numbers_in" "numbers_in" st_numbers_in f fd) (hm : mg "numbers_in" = some (.ref f)) (b : Binds K fd ["word", "mark"] []) : CalG P w K mg base 2 "numbers_in" [.s, .s] .s F_numbers_in :=
  ⟨f, fd, ["word", "mark"], fnG_dl (sf := S_numbers_in) (mr := [.u, .u, .u, .u]) (po := []) (r := 2) F sc_numbers_in rfl rfl (.stb rfl (.stb rfl (.nil _ _))) (.inl rfl) (fun cdv A outer s H E _ _ _ =>
      ss_cons (ds_setLc 2 [("part", 3)] (pi_seq (pd_frz (pd_split (pd_var 0) (pd_var 1)))) (pg_nm 3) (pts_no) (pd_call c_number_in (pl_cons (pd_var 3) (pl_nil))))
      (ss_one (ds_ret (pd_ifexp (pb_cmp opIn (pd_none) (pd_frzVar 2)) (pd_none) (pd_t1 clTuple z_tuple bt_tuple (pd_var 2))) (.cons (.u _) (.cons (.u _) (.cons (.u _) (.cons (.rfl _) .nil))))))), hm, F.kp, b⟩
theorem cal_is_number (z_isinstance : mg "isinstance" = none) (z_int : mg "int" = none) (z_bool : mg "bool" = none) {f : Addr} {fd : FuncData} (F : L2.Fun K "is_number" "is_number" st_is_number f fd) (hm : mg "is_number" = some (.ref f)) (b : Binds K fd ["value", "low", "high"] []) : CalG P w K mg base 1 "is_number" [.s, .s, .s] .s F_is_number :=
  ⟨f, fd, ["value", "low", "high"], fnG_dl (sf := S_is_number) (mr := [.u, .u, .u]) (po := []) (r := 0) F sc_is_number rfl rfl (.stb rfl (.stb rfl (.stb rfl (.nil _ _)))) (.inl rfl) (fun cdv A outer s H E _ _ _ =>
      ss_one (ds_ret (pd_and (pd_isa "int" z_isinstance z_int bt_int (pd_var 0)) (pd_and (pd_notV (pd_isa "bool" z_isinstance z_bool bt_bool (pd_var 0))) (pd_and1 (pd_chain opLe opLe (pd_var 1) (pd_var 0) (pd_var 2))))) (.cons (.u _) (.cons (.u _) (.cons (.u _) .nil))))), hm, F.kp, b⟩
theorem cal_is_hour (c_is_number : CalG P w K mg base 1 "is_number" [.s, .s, .s] .s F_is_number) {t_LAST_HOUR : Tok} (g_LAST_HOUR : mg "LAST_HOUR" = some (.int 1000000 t_LAST_HOUR)) {f : Addr} {fd : FuncData} (F : L2.Fun K "is_hour" "is_hour" st_is_hour f fd) (hm : mg "is_hour" = some (.ref f)) (b : Binds K fd ["value"] []) : CalG P w K mg base 2 "is_hour" [.s] .s F_is_hour :=
  ⟨f, fd, ["value"], fnG_dl (sf := S_is_hour) (mr := [.u]) (po := []) (r := 0) F sc_is_hour rfl rfl (.stb rfl (.nil _ _)) (.inl rfl) (fun cdv A outer s H E _ _ _ =>
      ss_one (ds_ret (pd_call c_is_number (pl_cons (pd_var 0) (pl_cons (pd_int) (pl_cons (pd_gint g_LAST_HOUR) (pl_nil))))) (.cons (.u _) .nil))), hm, F.kp, b⟩
theorem cal_is_ascending (z_all : mg "all" = none) (z_zip : mg "zip" = none) {f : Addr} {fd : FuncData} (F : L2.Fun K "is_ascending" "is_ascending" st_is_ascending f fd) (hm : mg "is_ascending" = some (.ref f)) (b : Binds K fd ["values"] []) : CalG P w K mg base 1 "is_ascending" [.s] .s F_is_ascending :=
  ⟨f, fd, ["values"], fnG_dl (sf := S_is_ascending) (mr := [.u, .u, .u]) (po := []) (r := 2) F sc_is_ascending rfl rfl (.stb rfl (.nil _ _)) (.inl rfl) (fun cdv A outer s H E _ _ _ =>
      ss_one (ds_ret (pd_b1 clAll z_all bt_all (pd_frz (pd_lc [("one", 1), ("other", 2)] (pi_zp z_zip (pd_var 0) (pd_slice (pd_var 0) (pp_some (pd_int)) (pp_none))) (pg_tp (k := 2) (pgs_cn (pg_nm 1) (pgs_cn (pg_nm 2) (pgs_nl)))) (pts_no) (pd_cmp opLt (pd_var 1) (pd_var 2))))) (.cons (.u _) (.cons (.rfl _) (.cons (.rfl _) .nil))))), hm, F.kp, b⟩
theorem cal_is_list (c_is_hour : CalG P w K mg base 2 "is_hour" [.s] .s F_is_hour) (c_is_ascending : CalG P w K mg base 1 "is_ascending" [.s] .s F_is_ascending) (z_isinstance : mg "isinstance" = none) (z_tuple : mg "tuple" = none) (z_len : mg "len" = none) (z_all : mg "all" = none) {t_MAX_LIST : Tok} (g_MAX_LIST : mg "MAX_LIST" = some (.int 20 t_MAX_LIST)) {f : Addr} {fd : FuncData} (F : L2.Fun K "is_list" "is_list" st_is_list f fd) (hm : mg "is_list" = some (.ref f)) (b : Binds K fd ["value"] []) : CalG P w K mg base 3 "is_list" [.s] .s F_is_list :=
  ⟨f, fd, ["value"], fnG_dl (sf := S_is_list) (mr := [.u, .u]) (po := []) (r := 1) F sc_is_list rfl rfl (.stb rfl (.nil _ _)) (.inl rfl) (fun cdv A outer s H E _ _ _ =>
      ss_cons (ds_if (pb_w (pbw_or (pb_not (pb_of (pd_isa "tuple" z_isinstance z_tuple bt_tuple (pd_var 0)))) (pbw_or (pb_cmp opGt (pd_b1 clLen z_len bt_len (pd_var 0)) (pd_gint g_MAX_LIST)) (pbw_or1 (pb_not (pb_of (pd_b1 clAll z_all bt_all (pd_frz (pd_lc [("hour", 1)] (pi_seq (pd_var 0)) (pg_nm 1) (pts_no) (pd_call c_is_hour (pl_cons (pd_var 1) (pl_nil))))))))))))
        (ss_one (ds_ret (pd_bool) (.cons (.u _) (.cons (.rfl _) .nil))))
        (ss_nil))
      (ss_one (ds_ret (pd_call c_is_ascending (pl_cons (pd_var 0) (pl_nil))) (.cons (.u _) (.cons (.rfl _) .nil))))), hm, F.kp, b⟩
theorem cal_list_in (c_numbers_in : CalG P w K mg base 2 "numbers_in" [.s, .s] .s F_numbers_in) (c_is_list : CalG P w K mg base 3 "is_list" [.s] .s F_is_list) {f : Addr} {fd : FuncData} (F : L2.Fun K "list_in" "list_in" st_list_in f fd) (hm : mg "list_in" = some (.ref f)) (b : Binds K fd ["word"] []) : CalG P w K mg base 4 "list_in" [.s] .s F_list_in :=
  ⟨f, fd, ["word"], fnG_dl (sf := S_list_in) (mr := [.u, .u]) (po := []) (r := 1) F sc_list_in rfl rfl (.stb rfl (.nil _ _)) (.inl rfl) (fun cdv A outer s H E _ _ _ =>
      ss_cons (ds_asg 1 (pd_ifexp (pb_cmp opEq (pd_var 0) (pd_str)) (pd_tup (k := 0) (pl_nil)) (pd_call c_numbers_in (pl_cons (pd_var 0) (pl_cons (pd_str) (pl_nil))))))
      (ss_one (ds_ret (pd_ifexp (pb_of (pd_call c_is_list (pl_cons (pd_var 1) (pl_nil)))) (pd_var 1) (pd_none)) (.cons (.u _) (.cons (.u _) .nil))))), hm, F.kp, b⟩
theorem cal_parse_lists_x (c_words_of_x : CalX P w K mg base 3 "words_of" [.s] .s (decF tb_words_of_x F_words_of_x)) (c_list_in : CalG P w K mg base 4 "list_in" [.s] .s F_list_in) (z_enumerate : mg "enumerate" = none) (z_tuple : mg "tuple" = none) {t_NONE : Tok} (g_NONE : mg "NONE" = some (.str "none" t_NONE)) {t_MAX_LESSONS : Tok} (g_MAX_LESSONS : mg "MAX_LESSONS" = some (.int 16 t_MAX_LESSONS)) (t_BadText : ExcT P w K mg base 1 "BadText" ["index"]) {f : Addr} {fd : FuncData} (F : L2.Fun K "parse_lists" "parse_lists" st_parse_lists f fd) (hm : mg "parse_lists" = some (.ref f)) (b : Binds K fd ["value"] []) : CalX P w K mg base 5 "parse_lists" [.s] .s (decF tb_parse_lists_x F_parse_lists_x) :=
  ⟨f, fd, ["value"], fnX_dlE tb_parse_lists_x (sf := S_parse_lists_x) (mr := [.u, .u, .u, .u, .u, .u]) (mx := [.u, .u, .u, .u, .u, .u]) (r := 5) F sc_parse_lists rfl rfl (nnx_seq (nnx_seq (nnx_seq (nnx_seq ((by first | exact nnx_ret | exact nnx_retE | exact nnx_retE1)))))) (fun cdv A outer s H E _ _ _ _ =>
      exs_cons (ex_asgE (tw := tb_words_of_x) 1 c_words_of_x (by unfold DL.SubT; decide) (by unfold DL.SubT; decide) (pl_cons (pd_var 0) (pl_nil)) (.cons (.u _) (.cons (.rfl _) (.cons (.rfl _) (.cons (.rfl _) (.cons (.rfl _) (.cons (.rfl _) .nil)))))))
      (exs_cons (ex_if (pb_cmp opEq (pd_var 1) (pd_frz (pd_lst (k := 1) .s (pl_cons (pd_gstr g_NONE) (pl_nil)))))
        (exs_one (ex_ret (pd_tup (k := 0) (pl_nil)) (.cons (.u _) (.cons (.u _) (.cons (.rfl _) (.cons (.rfl _) (.cons (.rfl _) (.cons (.rfl _) .nil))))))))
        (exs_of ss_nil nrt_nil))
      (exs_cons (ex_of (ds_asg 2 (pd_lst (k := 0) .s (pl_nil))) nrt_asg)
      (exs_cons (ex_for [.s, .s, (.l .s), .u, .u, .u] (pi_fg [3, 4, 5] (pi_en z_enumerate (pd_var 1)) (.cons (.rfl _) (.cons (.rfl _) (.cons (.rfl _) (.cons (.rfl _) (.cons (.rfl _) (.cons (.rfl _) .nil))))))) (.cons (.rfl _) (.cons (.rfl _) (.cons (.rfl _) (.cons (.rfl _) (.cons (.rfl _) (.cons (.rfl _) .nil)))))) (pg_tp (k := 2) (pgs_cn (pg_nm 3) (pgs_cn (pg_nm 4) (pgs_nl))))
        (exs_post [3, 4, 5] [0, 1, 2, 3, 4, 5] (sxs_le (exs_cons (ex_of (ds_asg 5 (pd_call c_list_in (pl_cons (pd_var 4) (pl_nil)))) nrt_asg)
      (exs_cons (ex_if (pb_w (pbw_or (pb_cmp opIs (pd_var 5) (pd_none)) (pbw_or1 (pb_cmp opEq (pd_var 3) (pd_gint g_MAX_LESSONS)))))
        (exs_one (ex_raise ["index"] t_BadText (pl_cons (pd_var 3) (pl_nil)) (.cons (.u _) (.cons (.u _) (.cons (.u _) (.cons (.u _) (.cons (.u _) (.cons (.u _) .nil))))))))
        (exs_of ss_nil nrt_nil))
      (exs_one (ex_of (ds_drop (pd_app 2 (pd_var 5))) nrt_drop)))) (.cons (.rfl _) (.cons (.rfl _) (.cons (.rfl _) (.cons (.u _) (.cons (.u _) (.cons (.u _) .nil)))))))) (.cons (.rfl _) (.cons (.rfl _) (.cons (.rfl _) (.cons (.rfl _) (.cons (.rfl _) (.cons (.rfl _) .nil)))))))
      (exs_one (ex_ret (pd_t1 clTuple z_tuple bt_tuple (pd_frzVar 2)) (.cons (.u _) (.cons (.u _) (.cons (.u _) (.cons (.rfl _) (.cons (.rfl _) (.cons (.rfl _) .nil)))))))))))), hm, F.kp, b⟩
theorem cal__law_index (z_isinstance : mg "isinstance" = none) {C_ListError : Addr} (g_ListError : mg "ListError" = some (.ref C_ListError)) {C_BadText : Addr} (g_BadText : mg "BadText" = some (.ref C_BadText)) {C_BadRoster : Addr} (g_BadRoster : mg "BadRoster" = some (.ref C_BadRoster)) {C_BadLists : Addr} (g_BadLists : mg "BadLists" = some (.ref C_BadLists)) {C_BadList : Addr} (g_BadList : mg "BadList" = some (.ref C_BadList)) (cat__law_index_t1_ListError : Cat K mg tb__law_index_t1 (.ref C_ListError)) (is__law_index_t1_BadText : IsT K mg tb__law_index_t1 rt__law_index_t1_BadText (.ref C_BadText)) (iss__law_index_t1_BadList_BadLists_BadRoster : IsTs K mg tb__law_index_t1 rt__law_index_t1_BadList_BadLists_BadRoster [(.ref C_BadList), (.ref C_BadLists), (.ref C_BadRoster)]) (fld__law_index_t1 : FldT K mg tb__law_index_t1) {f : Addr} {fd : FuncData} (F : L2.Fun K "_law_index" "_law_index" st__law_index f fd) (hm : mg "_law_index" = some (.ref f)) (b : Binds K fd ["_law_call"] []) : CalL P w K mg base 6 "_law_index" tb_parse_lists_x S__law_index 2 :=
  ⟨st__law_index, f, fd, ["_law_call", "_law_found", "e"], "_law_call", ⟨fun Φ g cdv A outer s H E _ _ _ act => ⟨[.u, .u, .u], ss_cons (ds_asg 1 (pd_none))
      (ss_cons (ds_tryB (mn := [(.g Φ), .s, .u]) tb__law_index_t1 2 g_ListError cat__law_index_t1_ListError (fun _ => by exact sxs_le (exs_one (exr_asgL (tw := tb__law_index_t1_parse_lists_x) 1 (act _ _ _ _ rfl) relC_dec (by unfold DL.SubT; decide) (by unfold DL.SubT; decide) (.cons (.rfl _) (.cons (.rfl _) (.cons (.rfl _) .nil))))) (.cons (.rfl _) (.cons (.s _ rfl) (.cons (.rfl _) .nil)))) (by exact fun a cls d fl c ht hc hd => ss_le (ss_cons (ds_asg 1 (pd_frz (pd_lst (k := 2) .s (pl_cons (pd_str) (pl_cons (pd_none) (pl_nil))))) (hj := by simp)) (ss_one (ds_if (pb_w (pbw_and (pb_of (pd_isX 2 rfl hc ht is__law_index_t1_BadText z_isinstance (fun i => by exact pe_glob (v := .ref C_BadText) rfl g_BadText rfl) (fun _ r => by exact r))) (pbw_and1 (pb_not (pb_of (pd_isXT 2 rfl hc ht iss__law_index_t1_BadList_BadLists_BadRoster z_isinstance (fun i => by exact (.cons (by exact pe_glob (v := .ref C_BadList) rfl g_BadList rfl) (by rfl) (by exact (.cons (by exact pe_glob (v := .ref C_BadLists) rfl g_BadLists rfl) (by rfl) (by exact (.cons (by exact pe_glob (v := .ref C_BadRoster) rfl g_BadRoster rfl) (by rfl) (by exact (.nil _)))))))) (.cons (.own _) (.cons (.own _) (.cons (.own _) .nil))) (hz := by show 3 ≤ sizeLine; rw [sizeLine_eq]; decide))))))) (ss_one (ds_asg 1 (pd_frz (pd_lst (k := 2) .s (pl_cons (pd_str) (pl_cons (pd_fldX 2 rfl hc ht hd fld__law_index_t1) (pl_nil))))) (hj := by simp))) (ss_nil)))) (.cons (.rfl _) (.cons (.rfl _) (.cons (.u _) .nil)))))
      (ss_one (ds_ret (pd_var 1) (.cons (.u _) (.cons (.u _) (.cons (.rfl _) .nil))))))⟩⟩, F, hm, b, sc__law_index, rfl, rfl, .inl rfl, by decide, by decide⟩
theorem cal__law_number_in (z_len : mg "len" = none) (z_int : mg "int" = none) {f : Addr} {fd : FuncData} (F : L2.Fun K "_law_number_in" "_law_number_in" st__law_number_in f fd) (hm : mg "_law_number_in" = some (.ref f)) (b : Binds K fd ["_law_word"] []) : CalG P w K mg base 1 "_law_number_in" [.s] .s F__law_number_in :=
  ⟨f, fd, ["_law_word"], fnG_dl (sf := S__law_number_in) (mr := [.u, .u]) (po := []) (r := 1) F sc__law_number_in rfl rfl (.stb rfl (.nil _ _)) (.inl rfl) (fun cdv A outer s H E _ _ _ =>
      ss_cons (ds_if (pb_w (pbw_or (pb_cmp opEq (pd_var 0) (pd_str)) (pbw_or (pb_cmp opGt (pd_b1 clLen z_len bt_len (pd_var 0)) (pd_int)) (pbw_or1 (pb_cmp opNe (pd_frz (pd_lc [("_law_sign", 1)] (pi_chr (pd_var 0)) (pg_nm 1) (pts_if (pb_cmp opNotInS (pd_var 1) (pd_str))) (pd_var 1))) (pd_frz (pd_lst (k := 0) .s (pl_nil))))))))
        (ss_one (ds_ret (pd_none) (.cons (.u _) (.cons (.rfl _) .nil))))
        (ss_nil))
      (ss_one (ds_ret (pd_ifexp (pb_w (pbw_and (pb_cmp opEq (pd_ix ixAny (pd_var 0) (pd_int)) (pd_str)) (pbw_and1 (pb_cmp opNe (pd_var 0) (pd_str))))) (pd_none) (pd_t1 clIntS z_int bt_int (pd_var 0))) (.cons (.u _) (.cons (.rfl _) .nil))))), hm, F.kp, b⟩
theorem cal__law_list_in (c__law_number_in : CalG P w K mg base 1 "_law_number_in" [.s] .s F__law_number_in) (z_len : mg "len" = none) (z_range : mg "range" = none) (z_tuple : mg "tuple" = none) {f : Addr} {fd : FuncData} (F : L2.Fun K "_law_list_in" "_law_list_in" st__law_list_in f fd) (hm : mg "_law_list_in" = some (.ref f)) (b : Binds K fd ["_law_word"] []) : CalG P w K mg base 2 "_law_list_in" [.s] .s F__law_list_in :=
  ⟨f, fd, ["_law_word"], fnG_dl (sf := S__law_list_in) (mr := [.u, .u, .u, .u, .u, .u]) (po := []) (r := 5) F sc__law_list_in rfl rfl (.stb rfl (.nil _ _)) (.inl rfl) (fun cdv A outer s H E _ _ _ =>
      ss_cons (ds_if (pb_cmp opEq (pd_var 0) (pd_str))
        (ss_one (ds_ret (pd_tup (k := 0) (pl_nil)) (.cons (.u _) (.cons (.rfl _) (.cons (.rfl _) (.cons (.rfl _) (.cons (.rfl _) (.cons (.rfl _) .nil))))))))
        (ss_nil))
      (ss_cons (ds_asg 1 (pd_frz (pd_lc [("_law_part", 3)] (pi_seq (pd_frz (pd_split (pd_var 0) (pd_str)))) (pg_nm 3) (pts_no) (pd_call c__law_number_in (pl_cons (pd_var 3) (pl_nil))))))
      (ss_cons (ds_if (pb_w (pbw_or (pb_cmp opGt (pd_b1 clLen z_len bt_len (pd_var 1)) (pd_int)) (pbw_or1 (pb_cmp opNe (pd_frz (pd_lc [("_law_hour", 4)] (pi_seq (pd_var 1)) (pg_nm 4) (pts_if (pb_w (pbw_or (pb_cmp opIs (pd_var 4) (pd_none)) (pbw_or1 (pb_cmp opGt (pd_var 4) (pd_bin opPow (pd_int) (pd_int))))))) (pd_var 4))) (pd_frz (pd_lst (k := 0) .s (pl_nil)))))))
        (ss_one (ds_ret (pd_none) (.cons (.u _) (.cons (.u _) (.cons (.rfl _) (.cons (.rfl _) (.cons (.rfl _) (.cons (.rfl _) .nil))))))))
        (ss_nil))
      (ss_cons (ds_setLc 2 [("_law_k", 5)] (pi_r2 z_range (pd_int) (pd_b1 clLen z_len bt_len (pd_var 1))) (pg_nm 5) (pts_if (pb_cmp opGe (pd_ix ixAny (pd_var 1) (pd_bin opSub (pd_var 5) (pd_int))) (pd_ix ixAny (pd_var 1) (pd_var 5)))) (pd_var 5))
      (ss_one (ds_ret (pd_ifexp (pb_cmp opEq (pd_frzVar 2) (pd_frz (pd_lst (k := 0) .s (pl_nil)))) (pd_t1 clTuple z_tuple bt_tuple (pd_var 1)) (pd_none)) (.cons (.u _) (.cons (.u _) (.cons (.u _) (.cons (.rfl _) (.cons (.rfl _) (.cons (.rfl _) .nil)))))))))))), hm, F.kp, b⟩
theorem cal__law_due (c__law_list_in : CalG P w K mg base 2 "_law_list_in" [.s] .s F__law_list_in) (z_isinstance : mg "isinstance" = none) (z_str : mg "str" = none) (z_range : mg "range" = none) (z_len : mg "len" = none) (z_tuple : mg "tuple" = none) {f : Addr} {fd : FuncData} (F : L2.Fun K "_law_due" "_law_due" st__law_due f fd) (hm : mg "_law_due" = some (.ref f)) (b : Binds K fd ["_law_value"] []) : CalG P w K mg base 3 "_law_due" [.s] .s F__law_due :=
  ⟨f, fd, ["_law_value"], fnG_dl (sf := S__law_due) (mr := [.u, .u, .u, .u, .u, .u]) (po := []) (r := 5) F sc__law_due rfl rfl (.stb rfl (.nil _ _)) (.inl rfl) (fun cdv A outer s H E _ _ _ =>
      ss_cons (ds_if (pb_not (pb_of (pd_isa "str" z_isinstance z_str bt_str (pd_var 0))))
        (ss_one (ds_ret (pd_frz (pd_lst (k := 2) .s (pl_cons (pd_str) (pl_cons (pd_none) (pl_nil))))) (.cons (.u _) (.cons (.rfl _) (.cons (.rfl _) (.cons (.rfl _) (.cons (.rfl _) (.cons (.rfl _) .nil))))))))
        (ss_nil))
      (ss_cons (ds_asg 1 (pd_frz (pd_split (pd_var 0) (pd_str))))
      (ss_cons (ds_if (pb_cmp opEq (pd_var 1) (pd_frz (pd_lst (k := 1) .s (pl_cons (pd_str) (pl_nil)))))
        (ss_one (ds_ret (pd_frz (pd_lst (k := 2) .s (pl_cons (pd_str) (pl_cons (pd_tup (k := 0) (pl_nil)) (pl_nil))))) (.cons (.u _) (.cons (.u _) (.cons (.rfl _) (.cons (.rfl _) (.cons (.rfl _) (.cons (.rfl _) .nil))))))))
        (ss_nil))
      (ss_cons (ds_asg 2 (pd_frz (pd_lc [("_law_word", 4)] (pi_seq (pd_var 1)) (pg_nm 4) (pts_no) (pd_call c__law_list_in (pl_cons (pd_var 4) (pl_nil))))))
      (ss_cons (ds_setLc 3 [("_law_k", 5)] (pi_r1 z_range (pd_b1 clLen z_len bt_len (pd_var 2))) (pg_nm 5) (pts_if (pb_w (pbw_or (pb_cmp opIs (pd_ix ixAny (pd_var 2) (pd_var 5)) (pd_none)) (pbw_or1 (pb_cmp opGe (pd_var 5) (pd_int)))))) (pd_var 5))
      (ss_one (ds_ret (pd_ifexp (pb_cmp opEq (pd_frzVar 3) (pd_frz (pd_lst (k := 0) .s (pl_nil)))) (pd_frz (pd_lst (k := 2) .s (pl_cons (pd_str) (pl_cons (pd_t1 clTuple z_tuple bt_tuple (pd_var 2)) (pl_nil))))) (pd_frz (pd_lst (k := 2) .s (pl_cons (pd_str) (pl_cons (pd_ix ixAny (pd_var 3) (pd_int)) (pl_nil)))))) (.cons (.u _) (.cons (.u _) (.cons (.u _) (.cons (.u _) (.cons (.rfl _) (.cons (.rfl _) .nil))))))))))))), hm, F.kp, b⟩
theorem fn_law {c Pt : Addr} (c__law_state : CalG P w K mg base 1 "_law_state" [.q] (.r [(.l .s), (.l .s), .s]) F__law_state) (c__law_roster : CalG P w K mg base 3 "_law_roster" [(.r [(.l .s), (.l .s), .s]), .s, .s] .s F__law_roster) (c__law_lists_text : CalG P w K mg base 2 "_law_lists_text" [.s] .s F__law_lists_text) (c__law_lists : CalG P w K mg base 2 "_law_lists" [(.r [(.l .s), (.l .s), .s]), .s, .s] .s F__law_lists) (c__law_spoilt : CalG P w K mg base 2 "_law_spoilt" [(.r [(.l .s), (.l .s), .s]), .s] .s F__law_spoilt) (c__law_draw : CalG P w K mg base 1 "_law_draw" [(.r [(.l .s), (.l .s), .s]), .s] .s F__law_draw) (c__law_odd : CalG P w K mg base 2 "_law_odd" [(.r [(.l .s), (.l .s), .s])] .s F__law_odd) (c__law_same : CalG P w K mg base 1 "_law_same" [.s, .s] .s F__law_same) (c__law_index : CalL P w K mg base 6 "_law_index" tb_parse_lists_x S__law_index 2) (c__law_due : CalG P w K mg base 3 "_law_due" [.s] .s F__law_due) (c_parse_lists_x : CalX P w K mg base 5 "parse_lists" [.s] .s (decF tb_parse_lists_x F_parse_lists_x)) (z_range : mg "range" = none) (z_str : mg "str" = none) (z_repr : mg "repr" = none) {f : Addr} {fd : FuncData} (F : L2.Fun K "law" "law" st_law f fd) (hc : fd.code = .ref c) (TB : LamX.TabB base mg c Pt) : FnG P w K mg base 8 f fd ["_law_script"] (spT K Pt F_law) :=
  fnG_dlT (sf := S_law) (mr := [.u, .u, .u, .u, .u, .u, .u, .u, .u, .u, .u]) (r := 9) F hc sc_law rfl rfl (fun z => by rcases z with z | z | z <;> exact nomatch z) (fun A outer s H E _ _ _ =>
      ss_cons (ds_asg 1 (pd_callL (kk := 0) (j := 0) c__law_state (pl_lend 0 (pl_nil))))
      (ss_cons (ds_asg 2 (pd_join (pd_str) (pd_frz (pd_lc [("_law_k", 7)] (pi_r1 z_range (pd_int)) (pg_nm 7 (hj := by first | decide | simp [DL.hideM])) (pts_no) (pd_t1 clStr z_str bt_str (pd_var 7))))))
      (ss_cons (ds_for [.q, (.r [(.l .s), (.l .s), .s]), .s, .u, .u, .u, .u, .u, .u, .u, (.g (TabΦ Pt ((("law" : Str) ++ ".<locals>.") ++ "<lambda>")))] (pi_fg [3, 4, 5, 6, 7, 8, 9] (pi_r1 z_range (pd_int)) (.cons (.rfl _) (.cons (.rfl _) (.cons (.rfl _) (.cons (.rfl _) (.cons (.rfl _) (.cons (.rfl _) (.cons (.rfl _) (.cons (.rfl _) (.cons (.rfl _) (.cons (.rfl _) (.cons (.rfl _) .nil)))))))))))) (.cons (.rfl _) (.cons (.rfl _) (.cons (.rfl _) (.cons (.rfl _) (.cons (.rfl _) (.cons (.rfl _) (.cons (.rfl _) (.cons (.rfl _) (.cons (.rfl _) (.cons (.rfl _) (.cons (.rfl _) .nil))))))))))) (pg_nm 3 (hj := by first | decide | simp [DL.hideM]))
        (ss_post [3, 4, 5, 6, 7, 8, 9] [0, 1, 2, 3, 4, 5, 6, 7, 8, 9, 10] (ss_le (ss_cons (ds_asg 4 (pd_callL (kk := 0) (j := 1) c__law_roster (pl_lend 1 (pl_cons (pd_int) (pl_cons (pd_int) (pl_nil))))))
      (ss_cons (ds_asg 5 (pd_call c__law_lists_text (pl_cons (pd_callL (kk := 0) (j := 1) c__law_lists (pl_lend 1 (pl_cons (pd_var 4) (pl_cons (pd_int) (pl_nil))))) (pl_nil))))
      (ss_cons (ds_asg 6 (pd_frz (pd_lst (k := 8) .s (pl_cons (pd_var 5) (pl_cons (pd_join (pd_str) (pd_bin opMul (pd_frz (pd_lst (k := 1) .s (pl_cons (pd_str) (pl_nil)))) (pd_int))) (pl_cons (pd_join (pd_str) (pd_bin opMul (pd_frz (pd_lst (k := 1) .s (pl_cons (pd_str) (pl_nil)))) (pd_int))) (pl_cons (pd_var 2) (pl_cons (pd_bin opAdd (pd_var 2) (pd_str)) (pl_cons (pd_str) (pl_cons (pd_str) (pl_cons (pd_str) (pl_nil))))))))))))
      (ss_cons (ds_asg 6 (pd_bin opAdd (pd_var 6) (pd_frz (pd_lst (k := 11) .s (pl_cons (pd_str) (pl_cons (pd_str) (pl_cons (pd_str) (pl_cons (pd_str) (pl_cons (pd_str) (pl_cons (pd_str) (pl_cons (pd_str) (pl_cons (pd_str) (pl_cons (pd_str) (pl_cons (pd_str) (pl_cons (pd_str) (pl_nil))))))))))))))))
      (ss_cons (ds_asg 6 (pd_bin opAddL (pd_var 6) (pd_frz (pd_lst (k := 4) .s (pl_cons (pd_str) (pl_cons (pd_str) (pl_cons (pd_str) (pl_cons (pd_str) (pl_nil)))))))))
      (ss_cons (ds_for [.q, (.r [(.l .s), (.l .s), .s]), .s, .s, .s, .s, (.l .s), .u, .u, .u, (.g (TabΦ Pt ((("law" : Str) ++ ".<locals>.") ++ "<lambda>")))] (pi_fg [7, 8] (pi_r1 z_range (pd_int)) (.cons (.rfl _) (.cons (.rfl _) (.cons (.rfl _) (.cons (.rfl _) (.cons (.rfl _) (.cons (.rfl _) (.cons (.rfl _) (.cons (.rfl _) (.cons (.rfl _) (.cons (.rfl _) (.cons (.rfl _) .nil)))))))))))) (.cons (.rfl _) (.cons (.rfl _) (.cons (.rfl _) (.cons (.rfl _) (.cons (.rfl _) (.cons (.rfl _) (.cons (.rfl _) (.cons (.rfl _) (.cons (.rfl _) (.cons (.rfl _) (.cons (.rfl _) .nil))))))))))) (pg_nm 7 (hj := by first | decide | simp [DL.hideM]))
        (ss_post [7, 8] [0, 1, 2, 3, 4, 5, 6, 7, 8, 9, 10] (ss_le (ss_cons (ds_asg 8 (pd_callL (kk := 0) (j := 1) c__law_spoilt (pl_lend 1 (pl_cons (pd_var 5) (pl_nil)))))
      (ss_cons (ds_if (pb_cmp opEq (pd_callL (kk := 0) (j := 1) c__law_draw (pl_lend 1 (pl_cons (pd_int) (pl_nil)))) (pd_int))
        (ss_one (ds_asg 8 (pd_callL (kk := 0) (j := 1) c__law_spoilt (pl_lend 1 (pl_cons (pd_var 8) (pl_nil))))))
        (ss_nil))
      (ss_one (ds_drop (pd_app 6 (pd_var 8)))))) (.cons (.rfl _) (.cons (.rfl _) (.cons (.rfl _) (.cons (.rfl _) (.cons (.rfl _) (.cons (.rfl _) (.cons (.rfl _) (.cons (.u _) (.cons (.u _) (.cons (.rfl _) (.cons (.rfl _) .nil))))))))))))) (.cons (.rfl _) (.cons (.rfl _) (.cons (.rfl _) (.cons (.rfl _) (.cons (.rfl _) (.cons (.rfl _) (.cons (.rfl _) (.cons (.rfl _) (.cons (.rfl _) (.cons (.rfl _) (.cons (.rfl _) .nil))))))))))))
      (ss_one (ds_for [.q, (.r [(.l .s), (.l .s), .s]), .s, .s, .s, .s, .s, .u, .u, .u, (.g (TabΦ Pt ((("law" : Str) ++ ".<locals>.") ++ "<lambda>")))] (pi_fg [8, 9] (pi_seq (pd_bin opAdd (pd_frzVar 6) (pd_frz (pd_lst (k := 7) .s (pl_cons (pd_none) (pl_cons (pd_int) (pl_cons (pd_bool) (pl_cons (pd_tup (k := 0) (pl_nil)) (pl_cons (pd_frz (pd_lst (k := 1) .s (pl_cons (pd_var 5) (pl_nil)))) (pl_cons (pd_dic0) (pl_cons (pd_callL (kk := 0) (j := 1) c__law_odd (pl_lend 1 (pl_nil))) (pl_nil)))))))))))) (.cons (.rfl _) (.cons (.rfl _) (.cons (.rfl _) (.cons (.rfl _) (.cons (.rfl _) (.cons (.rfl _) (.cons (.rfl _) (.cons (.rfl _) (.cons (.rfl _) (.cons (.rfl _) (.cons (.rfl _) .nil)))))))))))) (.cons (.rfl _) (.cons (.rfl _) (.cons (.rfl _) (.cons (.rfl _) (.cons (.rfl _) (.cons (.rfl _) (.cons (.rfl _) (.cons (.rfl _) (.cons (.rfl _) (.cons (.rfl _) (.cons (.rfl _) .nil))))))))))) (pg_nm 8 (hj := by first | decide | simp [DL.hideM]))
        (ss_post [8, 9] [0, 1, 2, 3, 4, 5, 6, 7, 8, 9, 10] (ss_le (ss_cons (ds_asg 9 (pd_b1 clRepr z_repr bt_repr (pd_var 8)))
      (ss_one (ds_if (pb_w (pbw_or (pb_not (pb_of (pd_call c__law_same (pl_cons (pd_lamcall (kl := 5) (mL := [.u, .u, .s, .s, .s, .s, .s, .u, .s, .s, .u]) (L := fun _ => LamX.lamS_by (sc := defScope st_law) (by decide +kernel)) 10 c__law_index TB (fun W => px_call c_parse_lists_x (pl_cons (pd_var 8) (pl_nil))) (pure_call (purel_cons pure_var purel_nil)) (nnx_seq (nnx_seq (nnx_ret)))) (pl_cons (pd_call c__law_due (pl_cons (pd_var 8) (pl_nil))) (pl_nil)))))) (pbw_or1 (pb_cmp opNe (pd_b1 clRepr z_repr bt_repr (pd_var 8)) (pd_var 9)))))
        (ss_one (ds_ret (pd_bool) (.cons (.u _) (.cons (.u _) (.cons (.u _) (.cons (.u _) (.cons (.u _) (.cons (.u _) (.cons (.u _) (.cons (.rfl _) (.cons (.u _) (.cons (.u _) (.cons (.u _) .nil)))))))))))))
        (ss_nil)))) (.cons (.rfl _) (.cons (.rfl _) (.cons (.rfl _) (.cons (.rfl _) (.cons (.rfl _) (.cons (.rfl _) (.cons (.rfl _) (.cons (.rfl _) (.cons (.u _) (.cons (.u _) (.cons (.rfl _) .nil))))))))))))) (.cons (.rfl _) (.cons (.rfl _) (.cons (.rfl _) (.cons (.rfl _) (.cons (.rfl _) (.cons (.rfl _) (.cons (.rfl _) (.cons (.rfl _) (.cons (.rfl _) (.cons (.rfl _) (.cons (.rfl _) .nil))))))))))))))))))) (.cons (.rfl _) (.cons (.rfl _) (.cons (.rfl _) (.cons (.u _) (.cons (.u _) (.cons (.u _) (.cons (.u _) (.cons (.rfl _) (.cons (.rfl _) (.cons (.rfl _) (.cons (.rfl _) .nil))))))))))))) (.cons (.rfl _) (.cons (.rfl _) (.cons (.rfl _) (.cons (.rfl _) (.cons (.rfl _) (.cons (.rfl _) (.cons (.rfl _) (.cons (.rfl _) (.cons (.rfl _) (.cons (.rfl _) (.cons (.rfl _) .nil))))))))))))
      (ss_one (ds_ret (pd_bool) (.cons (.u _) (.cons (.u _) (.cons (.u _) (.cons (.rfl _) (.cons (.rfl _) (.cons (.rfl _) (.cons (.rfl _) (.cons (.rfl _) (.cons (.rfl _) (.cons (.rfl _) (.cons (.u _) .nil))))))))))))))))
end
end LK
namespace LK
open PySem PySem.Spec PyProof.Rows L2 DL
set_option maxHeartbeats 0
theorem facts {l : PySem.W.OpenLaw} {w : World} {K : PySem.W.Frag} {h : Heap} {mg : Str → Option Value} {fa : Addr} (X : K.In h) (G : h.Ns mainGlobals mg) (hfa : mg "law" = some (.ref fa)) (c : He.SaysX [] hdefs [] [("law", none)] hex w h K) :
    ∃ (fd : FuncData) (c Pt : Addr), h.get? Pt = some { cls := .none, data := .fields #[] } ∧ K.lookup Pt = none ∧ PySem.W.codeHdIn K c Pt = true ∧ (∀ (s : Shared) (v : Value), BindsTo s fd ⟨[v], []⟩ [("_law_script", v)]) ∧ ∀ base : Heap, K.In base → base.Ns mainGlobals mg → LamX.TabB base mg c Pt → FnG l.prog w K mg base 8 fa fd ["_law_script"] (spT K Pt F_law) := by
  have r0 : hex K = true := c.more
  have p0 := and1 r0
  have r1 := and2 r0
  have s0_0 : hex_0 K = true := p0
  have h0 := and1 s0_0
  have s0_1 := and2 s0_0
  have h1 := and1 s0_1
  have s0_2 := and2 s0_1
  have h2 := and1 s0_2
  have s0_3 := and2 s0_2
  have a1 := fact_at h0 0
  obtain ⟨fd1, F1⟩ := fun_ofG c.t.d 0 (st := st__law_state)
  have a2 := fact_at h0 1
  obtain ⟨fd2, F2⟩ := fun_ofG c.t.d 1 (st := st__law_draw)
  have a3 := fact_at h0 2
  obtain ⟨fd3, F3⟩ := fun_ofG c.t.d 2 (st := st__law_pick)
  have a4 := fact_at h0 3
  obtain ⟨fd4, F4⟩ := fun_ofG c.t.d 3 (st := st__law_roster)
  have a5 := fact_at h0 4
  obtain ⟨fd5, F5⟩ := fun_ofG c.t.d 4 (st := st__law_list_text)
  have a6 := fact_at h0 5
  obtain ⟨fd6, F6⟩ := fun_ofG c.t.d 5 (st := st__law_lists_text)
  have a7 := fact_at h0 6
  obtain ⟨fd7, F7⟩ := fun_ofG c.t.d 6 (st := st__law_lists)
  have a8 := fact_at h0 7
  obtain ⟨fd8, F8⟩ := fun_ofG c.t.d 7 (st := st__law_spoilt)
  have a9 := fact_at h0 8
  obtain ⟨fd9, F9⟩ := fun_ofG c.t.d 8 (st := st__law_odd)
  have a10 := fact_at h0 9
  obtain ⟨fd10, F10⟩ := fun_ofG c.t.d 9 (st := st__law_same)
  have a11 := fact_at h0 10
  obtain ⟨fd11, F11⟩ := fun_ofG c.t.d 10 (st := st_words_of)
  have a12 := fact_at h0 11
  obtain ⟨fd12, F12⟩ := fun_ofG c.t.d 11 (st := st_number_in)
  have a13 := fact_at h0 12
  obtain ⟨fd13, F13⟩ := fun_ofG c.t.d 12 (st := st_numbers_in)
  have a14 := fact_at h0 13
  obtain ⟨fd14, F14⟩ := fun_ofG c.t.d 13 (st := st_is_number)
  have a15 := fact_at h0 14
  obtain ⟨fd15, F15⟩ := fun_ofG c.t.d 14 (st := st_is_hour)
  have a16 := fact_at h0 15
  obtain ⟨fd16, F16⟩ := fun_ofG c.t.d 15 (st := st_is_ascending)
  have a17 := fact_at h0 16
  obtain ⟨fd17, F17⟩ := fun_ofG c.t.d 16 (st := st_is_list)
  have a18 := fact_at h0 17
  obtain ⟨fd18, F18⟩ := fun_ofG c.t.d 17 (st := st_list_in)
  have a19 := fact_at h0 18
  obtain ⟨fd19, F19⟩ := fun_ofG c.t.d 18 (st := st_parse_lists)
  have a20 := fact_at h0 19
  obtain ⟨fd20, F20⟩ := fun_ofG c.t.d 19 (st := st__law_index)
  have a21 := fact_at h0 20
  obtain ⟨fd21, F21⟩ := fun_ofG c.t.d 20 (st := st__law_number_in)
  have a22 := fact_at h0 21
  obtain ⟨fd22, F22⟩ := fun_ofG c.t.d 21 (st := st__law_list_in)
  have a23 := fact_at h0 22
  obtain ⟨fd23, F23⟩ := fun_ofG c.t.d 22 (st := st__law_due)
  have a24 := fact_at h0 23
  obtain ⟨fd24, F24⟩ := fun_ofG c.t.d 23 (st := st_law)
  have xa_BadText := fact_at h0 24
  have xe_BadText := fact_at h0 25
  have xt_BadText := fact_at h0 26
  have xh_BadText := all_at h0 27
  have xa_ListError := fact_at h0 28
  have xe_ListError := fact_at h0 29
  have xt_ListError := fact_at h1 0
  have xh_ListError := all_at h1 1
  have xa_BadRoster := fact_at h1 2
  have xe_BadRoster := fact_at h1 3
  have xt_BadRoster := fact_at h1 4
  have xh_BadRoster := all_at h1 5
  have xa_BadLists := fact_at h1 6
  have xe_BadLists := fact_at h1 7
  have xt_BadLists := fact_at h1 8
  have xh_BadLists := all_at h1 9
  have xa_BadList := fact_at h1 10
  have xe_BadList := fact_at h1 11
  have xt_BadList := fact_at h1 12
  have xh_BadList := all_at h1 13
  have xz1 := fact_at h1 14
  have xz2 := fact_at h1 15
  have xl_BadText := all_at h1 16
  have xy_BadText := all_at h1 17
  have xs_BadText := fact_at h1 18
  have xg_BadText := fact_at h1 19
  have xq_BadText := fact_at h1 20
  have xb_BadText := fact_at h1 21
  have xm_BadText := fact_at h1 22
  have xp_BadText := all_at h1 23
  have xn_BadText_index := fact_at h1 24
  have xi_BadText := fact_at h1 25
  have xj_BadText := fact_at h1 26
  obtain ⟨fdI_BadText, FI_BadText⟩ := fun_ofM c.t.d 24 (st := ini_BadText)
  have xu_BadText_ListError := fact_at h1 27
  have xv_BadText_BadText := fact_at h1 28
  have xw_BadText_BadList_BadLists_BadRoster := fact_at h1 29
  have z_abs := fact_at h2 0
  have z_len := fact_at h2 1
  have z_range := fact_at h2 2
  have z_tuple := fact_at h2 3
  have z_str := fact_at h2 4
  have z_sorted := fact_at h2 5
  have z_set := fact_at h2 6
  have z_repr := fact_at h2 7
  have z_isinstance := fact_at h2 8
  have z_any := fact_at h2 9
  have z_int := fact_at h2 10
  have z_bool := fact_at h2 11
  have z_all := fact_at h2 12
  have z_zip := fact_at h2 13
  have z_enumerate := fact_at h2 14
  have g_LONGEST := (ints_at h2 15).choose_spec
  have g_LAST_HOUR := (ints_at h2 16).choose_spec
  have g_MAX_LIST := (ints_at h2 17).choose_spec
  have g_NONE := (strs_at h2 18).choose_spec
  have g_MAX_LESSONS := (ints_at h2 19).choose_spec
  have e := hfa.symm.trans (PySem.W.mg_of X G a24)
  cases e
  have hcd := code_at F24
  obtain ⟨oc, od, kV, dc, pm, an, cd, ct, osl, rfl, lkL, cdL⟩ := F24.ex
  refine ⟨PySem.W.fnOf "law" "law" (defArgs st_law) (defBody st_law) (defScope st_law) .none kV dc pm an cd ct, _, _, c.empty _ (List.mem_singleton.mpr rfl), c.out _ (List.mem_singleton.mpr rfl), c.hd _ (List.mem_singleton.mpr rfl), fun s v => .of_eq rfl, fun base _ _ TB => ?_⟩
  have y_abs := PySem.W.mg_none_of X G z_abs
  have y_len := PySem.W.mg_none_of X G z_len
  have y_range := PySem.W.mg_none_of X G z_range
  have y_tuple := PySem.W.mg_none_of X G z_tuple
  have y_str := PySem.W.mg_none_of X G z_str
  have y_sorted := PySem.W.mg_none_of X G z_sorted
  have y_set := PySem.W.mg_none_of X G z_set
  have y_repr := PySem.W.mg_none_of X G z_repr
  have y_isinstance := PySem.W.mg_none_of X G z_isinstance
  have y_any := PySem.W.mg_none_of X G z_any
  have y_int := PySem.W.mg_none_of X G z_int
  have y_bool := PySem.W.mg_none_of X G z_bool
  have y_all := PySem.W.mg_none_of X G z_all
  have y_zip := PySem.W.mg_none_of X G z_zip
  have y_enumerate := PySem.W.mg_none_of X G z_enumerate
  have h_LONGEST := PySem.W.mg_of X G g_LONGEST
  have h_LAST_HOUR := PySem.W.mg_of X G g_LAST_HOUR
  have h_MAX_LIST := PySem.W.mg_of X G g_MAX_LIST
  have h_NONE := PySem.W.mg_of X G g_NONE
  have h_MAX_LESSONS := PySem.W.mg_of X G g_MAX_LESSONS
  have h_BadText := PySem.W.mg_of X G xa_BadText
  have h_ListError := PySem.W.mg_of X G xa_ListError
  have h_BadRoster := PySem.W.mg_of X G xa_BadRoster
  have h_BadLists := PySem.W.mg_of X G xa_BadLists
  have h_BadList := PySem.W.mg_of X G xa_BadList
  have O_BadText : OexC K (A_BadText K) := oexc_of xl_BadText xy_BadText xs_BadText xe_BadText xt_BadText xp_BadText
  have E_BadText : ExcC K (A_BadText K) := ⟨xg_BadText, xq_BadText, xe_BadText, xh_BadText, xb_BadText, xz1, xz2, xm_BadText⟩
  have V_BadText : XfC K (A_BadText K) := ⟨xg_BadText, xq_BadText, xe_BadText, xh_BadText⟩
  have bI_BadText := bnd2 (p1 := "self") (p2 := "index") FI_BadText
  have T_BadText : ExcT l.prog w K mg base 1 "BadText" ["index"] := ⟨(A_BadText K), (He.ma K (A_BadText K) "__init__"), _, _, O_BadText, h_BadText, xi_BadText, xj_BadText, init1 FI_BadText sci_BadText rfl O_BadText xn_BadText_index (by first | exact Or.inl rfl | exact Or.inr (Or.inl rfl) | exact Or.inr (Or.inr rfl)) (by first | exact Or.inl rfl | exact Or.inr (Or.inl rfl) | exact Or.inr (Or.inr rfl)), bI_BadText⟩
  have cat__law_index_t1_ListError : Cat K mg tb__law_index_t1 (.ref (A_ListError K)) := ct_cons (p := fun c _ => ∃ C, mg c = some (.ref C) ∧ PySem.W.exmOne K (.ref C) (.ref (A_ListError K)) = some true) ⟨(A_BadText K), h_BadText, PySem.W.exm_ref xe_ListError xh_ListError xt_ListError xu_BadText_ListError⟩ (ct_nil)
  have is__law_index_t1_BadText : IsT K mg tb__law_index_t1 rt__law_index_t1_BadText (.ref (A_BadText K)) := ct_cons (p := fun c _ => ∃ D, mg c = some (.ref D) ∧ ExcC K D ∧ ∀ b, rt__law_index_t1_BadText.lookup c = some b → PySem.W.kitOne K (.ref D) (.ref (A_BadText K)) = some b) ⟨(A_BadText K), h_BadText, E_BadText, fun b hb => (by have hb2 : some true = some b := hb; cases hb2; exact xv_BadText_BadText)⟩ (ct_nil)
  have iss__law_index_t1_BadList_BadLists_BadRoster : IsTs K mg tb__law_index_t1 rt__law_index_t1_BadList_BadLists_BadRoster [(.ref (A_BadList K)), (.ref (A_BadLists K)), (.ref (A_BadRoster K))] := ct_cons (p := fun c _ => ∃ D, mg c = some (.ref D) ∧ ExcC K D ∧ ∀ b, rt__law_index_t1_BadList_BadLists_BadRoster.lookup c = some b → PySem.W.kitAny K (.ref D) [(.ref (A_BadList K)), (.ref (A_BadLists K)), (.ref (A_BadRoster K))] = some b) ⟨(A_BadText K), h_BadText, E_BadText, fun b hb => (by have hb2 : some false = some b := hb; cases hb2; exact xw_BadText_BadList_BadLists_BadRoster)⟩ (ct_nil)
  have fld__law_index_t1 : FldT K mg tb__law_index_t1 := ct_cons (p := fun c l => ∃ D, mg c = some (.ref D) ∧ XfC K D ∧ ∀ f ∈ l, PySem.W.findIn K (.ref D) f = some none) ⟨(A_BadText K), h_BadText, V_BadText, fun f hf => (List.mem_cons.mp hf).elim (fun z => by rw [z]; exact xn_BadText_index) fun hf => nomatch hf⟩ (ct_nil)
  have C__law_state := cal__law_state (P := l.prog) (w := w) (base := base) (mg := mg) y_abs y_len F1 (PySem.W.mg_of X G a1) (bnd1 F1)
  have C__law_draw := cal__law_draw (P := l.prog) (w := w) (base := base) (mg := mg) y_len F2 (PySem.W.mg_of X G a2) (bnd2 F2)
  have C__law_pick := cal__law_pick (P := l.prog) (w := w) (base := base) (mg := mg) C__law_draw y_len F3 (PySem.W.mg_of X G a3) (bnd2 F3)
  have C__law_roster := cal__law_roster (P := l.prog) (w := w) (base := base) (mg := mg) C__law_draw C__law_pick y_range y_tuple F4 (PySem.W.mg_of X G a4) (bnd3 F4)
  have C__law_list_text := cal__law_list_text (P := l.prog) (w := w) (base := base) (mg := mg) y_str F5 (PySem.W.mg_of X G a5) (bnd1 F5)
  have C__law_lists_text := cal__law_lists_text (P := l.prog) (w := w) (base := base) (mg := mg) C__law_list_text F6 (PySem.W.mg_of X G a6) (bnd1 F6)
  have C__law_lists := cal__law_lists (P := l.prog) (w := w) (base := base) (mg := mg) C__law_draw y_range y_tuple y_sorted y_set F7 (PySem.W.mg_of X G a7) (bnd3 F7)
  have C__law_spoilt := cal__law_spoilt (P := l.prog) (w := w) (base := base) (mg := mg) C__law_draw y_len F8 (PySem.W.mg_of X G a8) (bnd2 F8)
  have C__law_odd := cal__law_odd (P := l.prog) (w := w) (base := base) (mg := mg) C__law_draw F9 (PySem.W.mg_of X G a9) (bnd1 F9)
  have C__law_same := cal__law_same (P := l.prog) (w := w) (base := base) (mg := mg) y_repr F10 (PySem.W.mg_of X G a10) (bnd2 F10)
  have C_words_of_x := cal_words_of_x (P := l.prog) (w := w) (base := base) (mg := mg) y_isinstance y_str T_BadText F11 (PySem.W.mg_of X G a11) (bnd1 F11)
  have C_number_in := cal_number_in (P := l.prog) (w := w) (base := base) (mg := mg) y_len y_any y_int h_LONGEST F12 (PySem.W.mg_of X G a12) (bnd1 F12)
  have C_numbers_in := cal_numbers_in (P := l.prog) (w := w) (base := base) (mg := mg) C_number_in y_tuple F13 (PySem.W.mg_of X G a13) (bnd2 F13)
  have C_is_number := cal_is_number (P := l.prog) (w := w) (base := base) (mg := mg) y_isinstance y_int y_bool F14 (PySem.W.mg_of X G a14) (bnd3 F14)
  have C_is_hour := cal_is_hour (P := l.prog) (w := w) (base := base) (mg := mg) C_is_number h_LAST_HOUR F15 (PySem.W.mg_of X G a15) (bnd1 F15)
  have C_is_ascending := cal_is_ascending (P := l.prog) (w := w) (base := base) (mg := mg) y_all y_zip F16 (PySem.W.mg_of X G a16) (bnd1 F16)
  have C_is_list := cal_is_list (P := l.prog) (w := w) (base := base) (mg := mg) C_is_hour C_is_ascending y_isinstance y_tuple y_len y_all h_MAX_LIST F17 (PySem.W.mg_of X G a17) (bnd1 F17)
  have C_list_in := cal_list_in (P := l.prog) (w := w) (base := base) (mg := mg) C_numbers_in C_is_list F18 (PySem.W.mg_of X G a18) (bnd1 F18)
  have C_parse_lists_x := cal_parse_lists_x (P := l.prog) (w := w) (base := base) (mg := mg) C_words_of_x C_list_in y_enumerate y_tuple h_NONE h_MAX_LESSONS T_BadText F19 (PySem.W.mg_of X G a19) (bnd1 F19)
  have C__law_index := cal__law_index (P := l.prog) (w := w) (base := base) (mg := mg) y_isinstance h_ListError h_BadText h_BadRoster h_BadLists h_BadList cat__law_index_t1_ListError is__law_index_t1_BadText iss__law_index_t1_BadList_BadLists_BadRoster fld__law_index_t1 F20 (PySem.W.mg_of X G a20) (bnd1 F20)
  have C__law_number_in := cal__law_number_in (P := l.prog) (w := w) (base := base) (mg := mg) y_len y_int F21 (PySem.W.mg_of X G a21) (bnd1 F21)
  have C__law_list_in := cal__law_list_in (P := l.prog) (w := w) (base := base) (mg := mg) C__law_number_in y_len y_range y_tuple F22 (PySem.W.mg_of X G a22) (bnd1 F22)
  have C__law_due := cal__law_due (P := l.prog) (w := w) (base := base) (mg := mg) C__law_list_in y_isinstance y_str y_range y_len y_tuple F23 (PySem.W.mg_of X G a23) (bnd1 F23)
  exact fn_law C__law_state C__law_roster C__law_lists_text C__law_lists C__law_spoilt C__law_draw C__law_odd C__law_same C__law_index C__law_due C_parse_lists_x y_range y_str y_repr F24 hcd TB
end LK
open PySem PySem.W PySem.Calls PyProof.Rows
set_option maxHeartbeats 0 in
theorem PySem.Challenge.cw_listedges_k80_lists_texts_that_are_wrong_holds : PySem.Challenge.rw_listedges_k80_lists_texts_that_are_wrong.Holds := by
  w_on; o_law
  refine HandSHeadRun.head_any (r := (PySem.W.OpenLaw.row PySem.Challenge.rw_listedges_k80_lists_texts_that_are_wrong)) (q := view (OpenLaw.row PySem.Challenge.rw_listedges_k80_lists_texts_that_are_wrong).prog [38]) (H := LK.hk) (ob := LK.hob) (M := 100000) (loose := LK.hnames) (d := HandSHeadRun.topDef (OpenLaw.row PySem.Challenge.rw_listedges_k80_lists_texts_that_are_wrong).prog 38) (kwd := []) LK.hob_eq
    (by kernel_rfl) (fun s => by kernel_rfl) LK.hrun (by kernel_rfl) (by kernel_rfl) (by kernel_rfl) (by rfl) (by first | assumption | decide +kernel) (by decide +kernel) ⟨rfl, rfl, rfl, rfl, rfl, by decide +kernel⟩ ?hw ?hc
  case hw => w_witness2
  case hc =>
    refine DL.walk_ofXT (l := PySem.Challenge.rw_listedges_k80_lists_texts_that_are_wrong) (n := 63) (k := 8) (x := "_law_script") (Fn := LK.F_law) rfl (by decide) (by kernel_rfl) ⟨rfl, by decide, by decide⟩ ?F (fun ns h => LK.law_true ns h)
    intro w mg fa h Y G hmg0
    obtain ⟨K, KX, c⟩ := Y
    have hmg : mg ("law" : PySem.Str) = some (.ref fa) := by
      have e : (HandSHeadRun.topDef (OpenLaw.row PySem.Challenge.rw_listedges_k80_lists_texts_that_are_wrong).prog 38).name = ("law" : PySem.Str) := by kernel_rfl
      rw [← e]
      exact hmg0
    obtain ⟨fd, cc, Pt, h1, h2, h3, hb, hF⟩ := LK.facts (l := PySem.Challenge.rw_listedges_k80_lists_texts_that_are_wrong) (w := w) KX G hmg c
    exact ⟨K, fd, cc, Pt, KX, h1, h2, h3, hb, hF⟩
