import PyProof.Rows.All
import Wide.All
import OpenK.AllK
import Wide.FinOn
import HandS.ForMost
import HandS.IsInst
import HandS.TupAny
import HandS.TupMul
import HandS.Wide
import HandS.Conv
import HandS.List
import HandS.SortInts
import HandS.Walk
import HandS.Zip
import HandS.Rev
import KE.DataMinMax
import KE.DataAny
import KE.DataFind
import KE.DataIsa
import KE.DataCmp
import KE.DataEq
import KE.SortData
import KE.DatumIndex
import KE.KTupSum
import KE.GoesEnum
import HandS.Style
import HandS.RaiseMore
import HandS.Flow
import HandS.Dict
import HandS.SetFor
import HandS.DictComp
import HandS.Iter
import KE.GoesMore
import HandS.NoneIn
import HandS.ExcInit
import HandS.ExcInitHot
import HandS.ExcCtx
import HandS.ExcField
import HandS.ExcOwn
import HandS.WordsExc
import HandS.TryOnly
import HandS.TryMany
import KE.KExcIs
import HandS.ExcIs
import KE.KDictList
import KE.KDictDisplayH
import HandS.TupSets
import HandS.Set
import PyProof.SumAny
import PyProof.WalksMore
import PyProof.Rows.TupAdd
import PyProof.Rows.TupIter
import PyProof.AutoSeq1
import KE.KExcInit
import PyProof.ExcBaseAll.LookupError
import KE.KTryMore
import KE.KSmall
import HandS.DictEq
import HandS.SlotsOwn
import PyProof.CallStr
import HandS.FStr
import HandS.DictTup
import HandS.Defaults
import HandS.Text
import HandS.More
import HandS.HotCalls
import HandS.Head0
import HandS.Head1
import HandS.Head2
import HandS.HeadHook1
import HandS.HeadHook2
import HandS.HeadHook3
import HandS.HeadHook4
import HandS.Lambda
import HandS.EndTab
import HandS.NestedK
import HandS.ReplaceLit
import HandS.ExcValue
import PySem.Challenge.RW_listedges_k08_errors_and_limits
set_option Elab.async false
set_option linter.all false
set_option maxRecDepth 100000
set_option maxHeartbeats 4000000
theorem oBs {α β : Type} {o : Option α} {f : α → Option β} {b : β} (h : o.bind f = some b) : ∃ a, o = some a ∧ f a = some b := Option.bind_eq_some_iff.mp h
namespace DL
open PySem L2 PySem.Spec
inductive Ty where
  | u | s | q | d | l (t : Ty) | r (ts : List Ty) | e (a : Addr) (dx : Option Addr) (fs : List (Str × V)) (c : Str) | k (v : V) (t : Ty) | a (v : V) | t | o (C : Addr) (ns : List Str) (ts : List Ty) | f (C : Addr) (ns : List Str) | x (a : Addr) (o : Obj) (kvs : List (Int × V)) | g (Φ : Hp → Hp → PyData → V → List Addr → Prop)
def NdT (K : PySem.W.Frag) (G : Hp) (a : Addr) (xs : List V) : Prop :=
  (∃ o : Obj, o.cls = .type "tuple" ∧ o.dict = none ∧ G a = some (.frz o (.tup xs))) ∨
    ∃ (o : Obj) (its : Array Value) (n : Nat), K.lookup a = some o ∧ o.cls = .type "tuple" ∧ o.dict = none ∧ o.data = .seq its n ∧ its.size ≤ sizeLine ∧ Vals xs its.toList
theorem NdT.sq {K : PySem.W.Frag} {G : Hp} {a : Addr} {xs : List V} (h : NdT K G a xs) : SqT K G a xs := by
  rcases h with ⟨o, _, _, h⟩ | ⟨o, its, n, h1, h2, _, h3, h4, h5⟩
  · exact .inl (.inr ⟨o, h⟩)
  · exact .inr ⟨o, its, n, h1, h2, h3, h4, h5⟩
def NewT (H : Hp) (xs : List V) (Q : VK) : Prop := ∀ (p : Addr) (o : Obj), o.cls = .type "tuple" → o.dict = none → H p = none → Q (.ref p) (upd H p (.frz o (.tup xs)))
def obT : Option Addr → PyData
  | none => .none
  | some a => .int (a : Nat)
def obD (o : Option Addr) (cn : Str) (ns : List Str) (ds : List PyData) : PyData := .dict [(.tuple [obT o, .int (2 ^ 2000)], .tuple [.str cn, .tuple (ns.map .str), .list ds])]
def isOb : PyData → Bool
  | .dict [(.tuple _, _)] => true
  | _ => false
theorem ob_big : decide (((2 : Int) ^ 2000).natAbs.log2 < 1920) = false := by decide +kernel
theorem ob_show (o : Option Addr) (cn : Str) (ns : List Str) (ds : List PyData) : (obD o cn ns ds).showable = false := by
  unfold obD
  simp only [PyData.showable, PyData.showableKv, PyData.showableAll, ob_big, Bool.false_and, Bool.and_false]
def isDct : PyData → Bool
  | .dict kvs => !isOb (.dict kvs)
  | _ => false
def obTys : List String := ["int", "str", "tuple", "list", "dict", "bool", "set"]
structure CnK (K : PySem.W.Frag) (cn : Str) (C : Addr) : Prop where
  ns : PySem.W.nsIn K mainGlobals cn = some (some (.ref C))
  cl : Cls K C
  ca : PySem.W.findIn K (.ref C) "__class__" = some (some (.builtin "object.__class__"))
  cg : PySem.W.specialIn K (.builtin "object.__class__") "__get__" = some (some (.builtin "getset_descriptor.__get__"))
  ct : PySem.W.takesIn K (.builtin "object.__class__") = some true
  cm : PySem.W.mroIn K C (.type "object") = some true
  ty : ∀ T ∈ obTys, PySem.W.kitOne K (.ref C) (.type T) = some false
def ftS : Nat → PyData → Bool
  | _, .none => true
  | _, .bool _ => true
  | _, .int _ => true
  | _, .str _ => true
  | n + 1, .tuple xs => xs.all (ftS n)
  | _, _ => false
inductive Dq (K : PySem.W.Frag) (G : Hp) : V → PyData → Prop
  | non : Dq K G .non .none
  | bl (b : Bool) : Dq K G (.bl b) (.bool b)
  | int (i : Int) : Dq K G (.int i) (.int i)
  | str (x : Str) : x.length ≤ sizeLine → Dq K G (.str x) (.str x)
  | lst {a : Addr} {xs : List V} {ds : List PyData} : Rd G a (.lst xs) → xs.length = ds.length → xs.length ≤ sizeLine → (∀ (i : Nat) (v : V) (d : PyData), xs[i]? = some v → ds[i]? = some d → Dq K G v d) → Dq K G (.ref a) (.list ds)
  | tup {a : Addr} {xs : List V} {ds : List PyData} : NdT K G a xs → xs.length = ds.length → xs.length ≤ sizeLine → (∀ (i : Nat) (v : V) (d : PyData), xs[i]? = some v → ds[i]? = some d → Dq K G v d) → Dq K G (.ref a) (.tuple ds)
  | dic {a : Addr} {kvs : List (Str × Int)} : Rd G a (.dK (kvs.map fun p => (Sum.inr p.1, V.int p.2))) → kvs.length ≤ 15 → (kvs = [] → G a = some (.dK [])) → Dq K G (.ref a) (.dict (kvs.map fun p => (.str p.1, .int p.2)))
  | dv {a : Addr} {k : Str} {v : V} {d : PyData} : Rd G a (.dK [(Sum.inr k, v)]) → ftS 3 d = true → Dq K G v d → Dq K G (.ref a) (.dict [(.str k, d)])
  | ob {a C dx : Addr} {fs : List (Str × V)} {ds : List PyData} (o : Option Addr) (cn : Str) : CnK K cn C → G a = some (.ins C dx fs) → (∀ b, o = some b → b = a) → (fs.map (·.2)).length = ds.length → (∀ (i : Nat) (v : V) (d : PyData), (fs.map (·.2))[i]? = some v → ds[i]? = some d → Dq K G v d) → Dq K G (.ref a) (obD o cn (fs.map (·.1)) ds)
def DqA (K : PySem.W.Frag) (G : Hp) (xs : List V) (ds : List PyData) : Prop := xs.length = ds.length ∧ ∀ (i : Nat) (v : V) (d : PyData), xs[i]? = some v → ds[i]? = some d → Dq K G v d
section
variable {K : PySem.W.Frag} {G G' H H' : Hp}
theorem same_rd {a : Addr} {u : HO} (e : Same G G') (h : Rd G a u) : Rd G' a u := by
  rcases h with h | ⟨o, h⟩
  · exact .inl (e _ _ h)
  · exact .inr ⟨o, e _ _ h⟩
theorem same_seqT {a : Addr} {xs : List V} (e : Same G G') (h : SqT K G a xs) : SqT K G' a xs := by
  rcases h with (h | ⟨o, h⟩) | h
  · exact .inl (.inl (e _ _ h))
  · exact .inl (.inr ⟨o, e _ _ h⟩)
  · exact .inr h
theorem same_ndT {a : Addr} {xs : List V} (e : Same G G') (h : NdT K G a xs) : NdT K G' a xs := by
  rcases h with ⟨o, h1, h2, h⟩ | h
  · exact .inl ⟨o, h1, h2, e _ _ h⟩
  · exact .inr h
theorem same_seqL {a : Addr} {xs : List V} (e : Same G G') (h : SqL K G a xs) : SqL K G' a xs := h.imp (same_rd e) id
theorem Dq.mono (e : Same G G') {v : V} {d : PyData} (h : Dq K G v d) : Dq K G' v d := by
  induction h with
  | non => exact .non
  | bl b => exact .bl b
  | int i => exact .int i
  | str x hx => exact .str x hx
  | lst hs hl hz _ ih => exact .lst (same_rd e hs) hl hz ih
  | tup hs hl hz _ ih => exact .tup (same_ndT e hs) hl hz ih
  | dic hs hz h0 => exact .dic (same_rd e hs) hz fun q => e _ _ (h0 q)
  | ob o cn h1 h2 h3 hl _ ih => exact .ob o cn h1 (e _ _ h2) h3 hl ih
  | dv h1 h2 _ ih => exact .dv (same_rd e h1) h2 ih
theorem DqA.mono (e : Same G G') {xs : List V} {ds : List PyData} (h : DqA K G xs ds) : DqA K G' xs ds := ⟨h.1, fun i v d a b => (h.2 i v d a b).mono e⟩
theorem DqA.nil : DqA K G [] [] := ⟨rfl, fun i v d h _ => by simp at h⟩
theorem DqA.cons {v : V} {d : PyData} {vs : List V} {ds : List PyData} (h : Dq K G v d) (t : DqA K G vs ds) : DqA K G (v :: vs) (d :: ds) := by
  refine ⟨by simp [t.1], fun i x y hx hy => ?_⟩
  cases i with
  | zero => simp at hx hy; subst hx; subst hy; exact h
  | succ i => simp at hx hy; exact t.2 i x y hx hy
theorem DqA.head {v : V} {d : PyData} {vs : List V} {ds : List PyData} (h : DqA K G (v :: vs) (d :: ds)) : Dq K G v d := h.2 0 v d rfl rfl
theorem DqA.tail {v : V} {d : PyData} {vs : List V} {ds : List PyData} (h : DqA K G (v :: vs) (d :: ds)) : DqA K G vs ds :=
  ⟨by have := h.1; simpa using this, fun i x y hx hy => h.2 (i + 1) x y (by simpa using hx) (by simpa using hy)⟩
theorem DqA.append {vs ws : List V} {ds es : List PyData} (h : DqA K G vs ds) (t : DqA K G ws es) : DqA K G (vs ++ ws) (ds ++ es) := by
  refine ⟨by simp [h.1, t.1], fun i x y hx hy => ?_⟩
  by_cases hi : i < vs.length
  · rw [List.getElem?_append_left hi] at hx
    rw [List.getElem?_append_left (by rw [← h.1]; exact hi)] at hy
    exact h.2 i x y hx hy
  · rw [List.getElem?_append_right (by omega)] at hx
    rw [List.getElem?_append_right (by rw [← h.1]; omega), ← h.1] at hy
    exact t.2 _ x y hx hy
theorem DqA.get {vs : List V} {ds : List PyData} (h : DqA K G vs ds) {i : Nat} {d : PyData} (e : ds[i]? = some d) : ∃ v, vs[i]? = some v ∧ Dq K G v d := by
  have hi : i < vs.length := by rw [h.1]; exact (List.getElem?_eq_some_iff.mp e).1
  exact ⟨vs[i], List.getElem?_eq_getElem hi, h.2 i _ _ (List.getElem?_eq_getElem hi) e⟩
end
def hTI (ks : List Int) : Int := reduceHash (Builtin.Tuple.tupleHashOf (ks.map hashInt))
def DTt (a : Addr) (kvs : List (List Int × Addr × V)) (h : Heap) : Prop :=
  (a == sysModules) = false ∧ (kvs.map (·.1)).Nodup ∧ ∃ xs : List (List Int × Addr × Value), xs.length = kvs.length ∧
    (∀ (i : Nat) (p : List Int × Addr × V) (q : List Int × Addr × Value), kvs[i]? = some p → xs[i]? = some q → p.1 = q.1 ∧ p.2.1 = q.2.1 ∧ RelV p.2.2 q.2.2) ∧
    ∃ (o : Obj) (es : Array DictEntry) (ep : Nat), h.get? a = some o ∧ o.ExactDict ∧ o.data = .dict es ep ∧ es.toList = xs.map fun x => (⟨hTI x.1, .ref x.2.1, x.2.2⟩ : DictEntry)
structure GOk (Φ : Hp → Hp → PyData → V → List Addr → Prop) : Prop where
  at_ : ∀ {G H : Hp} {d : PyData} {v : V} {A : List Addr}, Φ G H d v A → ∀ a ∈ A, G a = none ∧ ∃ o, H a = some o
  kd : ∀ {G H : Hp} {d : PyData} {v : V} {A : List Addr}, Φ G H d v A → ∀ a ∈ A, (∃ vs, H a = some (.lst vs)) ∨ (∃ kvs, H a = some (.dK kvs)) ∨ (∃ φ, H a = some (.ext φ)) ∨ (∃ C dx fs, H a = some (.ins C dx fs)) ∨ (∃ x, H a = some (.own x)) ∨ ∃ ps, H a = some (.tbl ps)
  fr : ∀ {G G' H H' : Hp} {d : PyData} {v : V} {A : List Addr}, Φ G H d v A → Same G G' → (∀ a ∈ A, G' a = none) → (∀ a ∈ A, H' a = H a) → Φ G' H' d v A
mutual
inductive Own (K : PySem.W.Frag) (G H : Hp) : Ty → PyData → Option V → List Addr → Prop
  | u (d : PyData) (v : Option V) : Own K G H .u d v []
  | s {d : PyData} {v : V} : Dq K G v d → Own K G H .s d (some v) []
  | q {a : Addr} {ns : List Int} : SqL K G a (ns.map V.int) → ns.length ≤ sizeLine → Own K G H .q (.list (ns.map PyData.int)) (some (.ref a)) []
  | d {a : Addr} {kvs : List (Int × V)} {ds : List (Int × PyData)} : G a = none → H a = some (.dK (kvs.map fun p => ((Sum.inl p.1 : Key), p.2))) → kvs.map (·.1) = ds.map (·.1) → DqA K G (kvs.map (·.2)) (ds.map (·.2)) → kvs.length ≤ sizeLine → Own K G H .d (.dict (ds.map fun p => (.int p.1, p.2))) (some (.ref a)) [a]
  | l {t : Ty} {a : Addr} {vs : List V} {ds : List PyData} {A : List Addr} : G a = none → H a = some (.lst vs) → vs.length ≤ sizeLine → OwnA K G H (List.replicate ds.length t) ds (vs.map some) A → Own K G H (.l t) (.list ds) (some (.ref a)) (a :: A)
  | r {ts : List Ty} {a : Addr} {vs : List V} {ds : List PyData} {A : List Addr} : G a = none → H a = some (.lst vs) → vs.length ≤ sizeLine → OwnA K G H ts ds (vs.map some) A → Own K G H (.r ts) (.list ds) (some (.ref a)) (a :: A)
  | e {a : Addr} {dx : Option Addr} {fs : List (Str × V)} {c : Str} {ds : List PyData} : (∀ x, dx = some x → G x = some (.xd fs)) → DqA K G (fs.map (·.2)) ds → Own K G H (.e a dx fs c) (.tuple (.str c :: ds)) (some (.ref a)) []
  | k {t : Ty} {d : PyData} {v : V} {A : List Addr} : Own K G H t d (some v) A → Own K G H (.k v t) d (some v) A
  | a (d : PyData) (v : V) : Own K G H (.a v) d (some v) []
  | t {a : Addr} {kvs : List (List Int × Addr × V)} {ds : List (List Int × PyData)} : G a = none → H a = some (.ext (DTt a kvs)) → kvs.map (·.1) = ds.map (·.1) → (∀ p ∈ kvs, Dq K G (.ref p.2.1) (.tuple (p.1.map .int))) → DqA K G (kvs.map (·.2.2)) (ds.map (·.2)) → kvs.length ≤ sizeLine → Own K G H .t (.dict (ds.map fun p => (.tuple (p.1.map .int), p.2))) (some (.ref a)) [a]
  | o {C dx a : Addr} {ns : List Str} {ts : List Ty} {fs : List (Str × V)} {ds : List PyData} {A : List Addr} : G a = none → G dx = none → H a = some (.ins C dx fs) → H dx = some (.own a) → fs.map (·.1) = ns → OwnA K G H ts ds (fs.map fun p => some p.2) A → Own K G H (.o C ns ts) (.list ds) (some (.ref a)) (a :: dx :: A)
  | f {C dx a : Addr} {ns : List Str} {fs : List (Str × V)} {ds : List PyData} : G a = some (.ins C dx fs) → fs.map (·.1) = ns → DqA K G (fs.map (·.2)) ds → Own K G H (.f C ns) (.list ds) (some (.ref a)) []
  | x {a : Addr} {o : Obj} {kvs : List (Int × V)} {ds : List (Int × PyData)} : G a = some (.frz o (.dK (kvs.map fun p => ((Sum.inl p.1 : Key), p.2)))) → kvs.map (·.1) = ds.map (·.1) → DqA K G (kvs.map (·.2)) (ds.map (·.2)) → kvs.length ≤ sizeLine → Own K G H (.x a o kvs) (.dict (ds.map fun p => (.int p.1, p.2))) (some (.ref a)) []
  | g {Φ : Hp → Hp → PyData → V → List Addr → Prop} {d : PyData} {v : V} {A : List Addr} : GOk Φ → Φ G H d v A → Own K G H (.g Φ) d (some v) A
inductive OwnA (K : PySem.W.Frag) (G H : Hp) : List Ty → List PyData → List (Option V) → List Addr → Prop
  | nil : OwnA K G H [] [] [] []
  | cons {t : Ty} {ts : List Ty} {d : PyData} {ds : List PyData} {v : Option V} {vs : List (Option V)} {A B : List Addr} : Own K G H t d v A → OwnA K G H ts ds vs B → OwnA K G H (t :: ts) (d :: ds) (v :: vs) (A ++ B)
end
section
variable {K : PySem.W.Frag} {G G' H H' : Hp}
theorem own_at {t : Ty} {d : PyData} {v : Option V} {A : List Addr} (h : Own K G H t d v A) : ∀ a ∈ A, G a = none ∧ ∃ o, H a = some o := by
  refine Own.rec (K := K) (G := G) (H := H) (motive_1 := fun t d v A _ => ∀ a ∈ A, G a = none ∧ ∃ o, H a = some o) (motive_2 := fun ts ds vs A _ => ∀ a ∈ A, G a = none ∧ ∃ o, H a = some o) ?_ ?_ ?_ ?_ ?_ ?_ ?_ ?_ ?_ ?_ ?_ ?_ ?_ ?_ ?_ ?_ h
  · intro d v a ha; cases ha
  · intro d v _ a ha; cases ha
  · intro a ns _ _ b hb; cases hb
  · intro a kvs ds h1 h2 _ _ _ b hb
    rw [List.mem_singleton.mp hb]
    exact ⟨h1, _, h2⟩
  · intro t a vs ds A h1 h2 _ _ ih b hb
    rcases List.mem_cons.mp hb with rfl | hb
    · exact ⟨h1, _, h2⟩
    · exact ih b hb
  · intro t a vs ds A h1 h2 _ _ ih b hb
    rcases List.mem_cons.mp hb with rfl | hb
    · exact ⟨h1, _, h2⟩
    · exact ih b hb
  · intro a dx fs c ds _ _ b hb; cases hb
  · intro t d v A _ ih; exact ih
  · intro d v b hb; cases hb
  · intro a kvs ds h1 h2 _ _ _ _ b hb
    rw [List.mem_singleton.mp hb]
    exact ⟨h1, _, h2⟩
  · intro C dx a ns ts fs ds A h1 h2 h3 h4 _ _ ih b hb
    rcases List.mem_cons.mp hb with rfl | hb
    · exact ⟨h1, _, h3⟩
    · rcases List.mem_cons.mp hb with rfl | hb
      · exact ⟨h2, _, h4⟩
      · exact ih b hb
  · intro C dx a ns fs ds _ _ _ b hb; cases hb
  · intro a o kvs ds _ _ _ _ b hb; cases hb
  · intro Φ d v A ok h; exact ok.at_ h
  · intro a ha; cases ha
  · intro t ts d ds v vs A B _ _ i1 i2 a ha
    rcases List.mem_append.mp ha with ha | ha
    · exact i1 a ha
    · exact i2 a ha
theorem ownA_at {t : List Ty} {d : List PyData} {v : List (Option V)} {A : List Addr} (h : OwnA K G H t d v A) : ∀ a ∈ A, G a = none ∧ ∃ o, H a = some o := by
  induction t generalizing d v A with
  | nil => cases h; intro a ha; cases ha
  | cons t ts ih =>
    cases h with
    | cons h1 h2 =>
      intro a ha
      rcases List.mem_append.mp ha with ha | ha
      · exact own_at h1 a ha
      · exact ih h2 a ha
theorem own_fr {t : Ty} {d : PyData} {v : Option V} {A : List Addr} (h : Own K G H t d v A) (e : Same G G') (hg : ∀ a ∈ A, G' a = none) (hh : ∀ a ∈ A, H' a = H a) : Own K G' H' t d v A := by
  refine Own.rec (K := K) (G := G) (H := H) (motive_1 := fun t d v A _ => (∀ a ∈ A, G' a = none) → (∀ a ∈ A, H' a = H a) → Own K G' H' t d v A) (motive_2 := fun t d v A _ => (∀ a ∈ A, G' a = none) → (∀ a ∈ A, H' a = H a) → OwnA K G' H' t d v A) ?_ ?_ ?_ ?_ ?_ ?_ ?_ ?_ ?_ ?_ ?_ ?_ ?_ ?_ ?_ ?_ h hg hh
  · intro d v _ _; exact .u d v
  · intro d v h _ _; exact .s (h.mono e)
  · intro a ns h hz _ _; exact .q (same_seqL e h) hz
  · intro a kvs ds h1 h2 hk q hz hg hh
    exact .d (hg a (List.mem_singleton.mpr rfl)) (by rw [hh a (List.mem_singleton.mpr rfl)]; exact h2) hk (q.mono e) hz
  · intro t a vs ds A h1 h2 hz _ ih hg hh
    exact .l (hg a (List.mem_cons_self ..)) (by rw [hh a (List.mem_cons_self ..)]; exact h2) hz (ih (fun b hb => hg b (List.mem_cons_of_mem _ hb)) fun b hb => hh b (List.mem_cons_of_mem _ hb))
  · intro t a vs ds A h1 h2 hz _ ih hg hh
    exact .r (hg a (List.mem_cons_self ..)) (by rw [hh a (List.mem_cons_self ..)]; exact h2) hz (ih (fun b hb => hg b (List.mem_cons_of_mem _ hb)) fun b hb => hh b (List.mem_cons_of_mem _ hb))
  · intro a dx fs c ds h1 h2 _ _
    exact .e (fun x hx => e _ _ (h1 x hx)) (h2.mono e)
  · intro t d v A _ ih hg hh; exact .k (ih hg hh)
  · intro d v _ _; exact .a d v
  · intro a kvs ds h1 h2 hk hq q hz hg hh
    exact .t (hg a (List.mem_singleton.mpr rfl)) (by rw [hh a (List.mem_singleton.mpr rfl)]; exact h2) hk (fun p hp => (hq p hp).mono e) (q.mono e) hz
  · intro C dx a ns ts fs ds A h1 h2 h3 h4 hn _ ih hg hh
    have m1 : a ∈ a :: dx :: A := List.mem_cons_self ..
    have m2 : dx ∈ a :: dx :: A := List.mem_cons_of_mem _ (List.mem_cons_self ..)
    have m3 : ∀ b ∈ A, b ∈ a :: dx :: A := fun b hb => List.mem_cons_of_mem _ (List.mem_cons_of_mem _ hb)
    exact .o (hg a m1) (hg dx m2) (by rw [hh a m1]; exact h3) (by rw [hh dx m2]; exact h4) hn (ih (fun b hb => hg b (m3 b hb)) fun b hb => hh b (m3 b hb))
  · intro C dx a ns fs ds h1 hn q _ _
    exact .f (e _ _ h1) hn (q.mono e)
  · intro a o kvs ds h1 hk q hz _ _
    exact .x (e _ _ h1) hk (q.mono e) hz
  · intro Φ d v A ok h hg hh; exact .g ok (ok.fr h e hg hh)
  · intro _ _; exact .nil
  · intro t ts d ds v vs A B _ _ i1 i2 hg hh
    exact .cons (i1 (fun b hb => hg b (List.mem_append_left _ hb)) fun b hb => hh b (List.mem_append_left _ hb)) (i2 (fun b hb => hg b (List.mem_append_right _ hb)) fun b hb => hh b (List.mem_append_right _ hb))
theorem ownA_fr {t : List Ty} {d : List PyData} {v : List (Option V)} {A : List Addr} (h : OwnA K G H t d v A) (e : Same G G') (hg : ∀ a ∈ A, G' a = none) (hh : ∀ a ∈ A, H' a = H a) : OwnA K G' H' t d v A := by
  induction t generalizing d v A with
  | nil => cases h; exact .nil
  | cons t ts ih =>
    cases h with
    | cons h1 h2 =>
      exact .cons (own_fr h1 e (fun b hb => hg b (List.mem_append_left _ hb)) fun b hb => hh b (List.mem_append_left _ hb)) (ih h2 (fun b hb => hg b (List.mem_append_right _ hb)) fun b hb => hh b (List.mem_append_right _ hb))
theorem ownA_len {t : List Ty} {d : List PyData} {v : List (Option V)} {A : List Addr} (h : OwnA K G H t d v A) : t.length = d.length ∧ v.length = d.length := by
  induction t generalizing d v A with
  | nil => cases h; exact ⟨rfl, rfl⟩
  | cons t ts ih =>
    cases h with
    | cons h1 h2 =>
      obtain ⟨a, b⟩ := ih h2
      simp only [List.length_cons]
      omega
def lay (G H : Hp) (A : List Addr) : Hp := fun a => if a ∈ A then H a else G a
theorem lay_in {A : List Addr} {a : Addr} (h : a ∈ A) : lay G H A a = H a := by unfold lay; rw [if_pos h]
theorem lay_out {A : List Addr} {a : Addr} (h : a ∉ A) : lay G H A a = G a := by unfold lay; rw [if_neg h]
end
mutual
def nou : Ty → Bool
  | .u => false
  | .s => true
  | .q => false
  | .d => false
  | .l t => nou t
  | .r ts => nouL ts
  | .e _ _ _ _ => false
  | .k _ t => nou t
  | .a _ => false
  | .t => false
  | .o _ _ _ => false
  | .f _ _ => false
  | .x _ _ _ => false
  | .g _ => false
def nouL : List Ty → Bool
  | [] => true
  | t :: ts => nou t && nouL ts
end
theorem nouL_rep {t : Ty} (h : nou t = true) : ∀ n : Nat, nouL (List.replicate n t) = true
  | 0 => rfl
  | n + 1 => by
    show (nou t && nouL (List.replicate n t)) = true
    rw [h, nouL_rep h n]; rfl
section
variable {K : PySem.W.Frag} {G G' H H' : Hp}
theorem own_frz {t : Ty} {d : PyData} {v : Option V} {A : List Addr} (h : Own K G H t d v A) (e : Same G G') (hg : ∀ a ∈ A, G' a = H a) (hn : nou t = true) : ∃ x, v = some x ∧ Dq K G' x d := by
  refine Own.rec (K := K) (G := G) (H := H) (motive_1 := fun t d v A _ => (∀ a ∈ A, G' a = H a) → nou t = true → ∃ x, v = some x ∧ Dq K G' x d)
    (motive_2 := fun t d v A _ => (∀ a ∈ A, G' a = H a) → nouL t = true → ∀ vs : List V, v = vs.map some → DqA K G' vs d) ?_ ?_ ?_ ?_ ?_ ?_ ?_ ?_ ?_ ?_ ?_ ?_ ?_ ?_ ?_ ?_ h hg hn
  · intro d v _ h; exact absurd h (by simp [nou])
  · intro d v h _ _; exact ⟨_, rfl, h.mono e⟩
  · intro a ns _ _ _ h; exact absurd h (by simp [nou])
  · intro a kvs ds _ _ _ _ _ _ h; exact absurd h (by simp [nou])
  · intro t a vs ds A h1 h2 hz _ ih hg hn
    have q := ih (fun b hb => hg b (List.mem_cons_of_mem _ hb)) (nouL_rep (by simpa [nou] using hn) _) vs rfl
    have ea : G' a = some (.lst vs) := by rw [hg a (List.mem_cons_self ..)]; exact h2
    exact ⟨_, rfl, .lst (.inl ea) q.1 hz q.2⟩
  · intro t a vs ds A h1 h2 hz _ ih hg hn
    have q := ih (fun b hb => hg b (List.mem_cons_of_mem _ hb)) (by simpa [nou] using hn) vs rfl
    have ea : G' a = some (.lst vs) := by rw [hg a (List.mem_cons_self ..)]; exact h2
    exact ⟨_, rfl, .lst (.inl ea) q.1 hz q.2⟩
  · intro a dx fs c ds _ _ _ h; exact absurd h (by simp [nou])
  · intro t d v A _ ih hg hn; exact ih hg (by simpa [nou] using hn)
  · intro d v _ h; exact absurd h (by simp [nou])
  · intro a kvs ds _ _ _ _ _ _ _ h; exact absurd h (by simp [nou])
  · intro C dx a ns ts fs ds A _ _ _ _ _ _ _ _ h; exact absurd h (by simp [nou])
  · intro C dx a ns fs ds _ _ _ _ h; exact absurd h (by simp [nou])
  · intro a o kvs ds _ _ _ _ _ h; exact absurd h (by simp [nou])
  · intro Φ d v A _ _ _ h; exact absurd h (by simp [nou])
  · intro _ _ vs hv
    cases vs with
    | nil => exact DqA.nil
    | cons _ _ => cases hv
  · intro t ts d ds v vs A B _ _ i1 i2 hg hn ws hw
    cases ws with
    | nil => cases hw
    | cons x ws =>
      simp only [List.map_cons, List.cons.injEq] at hw
      obtain ⟨hx, hw⟩ := hw
      simp only [nouL, Bool.and_eq_true] at hn
      obtain ⟨y, hy, q⟩ := i1 (fun b hb => hg b (List.mem_append_left _ hb)) hn.1
      rw [hx] at hy
      cases hy
      exact DqA.cons q (i2 (fun b hb => hg b (List.mem_append_right _ hb)) hn.2 ws hw)
structure Stt (K : PySem.W.Frag) (m : List Ty) (G H : Hp) (σ : St) (e : List PyData) (A : List Addr) : Prop where
  own : OwnA K G H m e σ A
  nd : A.Nodup
  sub : Same G H
structure Step (A : List Addr) (G H : Hp) (B : List Addr) (G' H' : Hp) : Prop where
  sg : Same G G'
  fr : ∀ a o, H a = some o → a ∉ A → H' a = some o
  own : ∀ a ∈ B, a ∈ A ∨ H a = none
  gnew : ∀ a, G a = none → (∃ o, G' a = some o) → a ∈ A ∨ H a = none
theorem Step.refl {A : List Addr} : Step A G H A G H := ⟨Same.refl G, fun _ _ h _ => h, fun _ h => .inl h, fun a h ⟨o, e⟩ => by rw [h] at e; cases e⟩
theorem none_or (H : Hp) (a : Addr) : H a = none ∨ ∃ o, H a = some o := by
  cases h : H a with
  | none => exact .inl rfl
  | some o => exact .inr ⟨o, rfl⟩
theorem Step.back {A B : List Addr} (s : Step A G H B G' H') {a : Addr} (h : H' a = none) : a ∈ A ∨ H a = none := by
  by_cases ha : a ∈ A
  · exact .inl ha
  · rcases none_or H a with e | ⟨o, e⟩
    · exact .inr e
    · rw [s.fr a o e ha] at h; cases h
theorem Step.seq {A Av A1 B : List Addr} {G1 H1 G2 H2 : Hp} (s1 : Step A G H (Av ++ A1) G1 H1) (o1 : ∀ a ∈ Av, G1 a = none ∧ ∃ o, H1 a = some o) (nd : (Av ++ A1).Nodup) (s2 : Step A1 G1 H1 B G2 H2) (ndB : B.Nodup) :
    Step A G H (Av ++ B) G2 H2 ∧ (Av ++ B).Nodup ∧ (∀ a ∈ Av, G2 a = none) ∧ ∀ a ∈ Av, H2 a = H1 a := by
  have dis : ∀ a ∈ Av, a ∉ A1 := fun a ha hb => (List.nodup_append.mp nd).2.2 a ha a hb rfl
  have key : ∀ a, a ∈ A1 ∨ H1 a = none → a ∈ A ∨ H a = none := fun a h => by
    rcases h with h | h
    · exact s1.own a (List.mem_append_right _ h)
    · exact s1.back h
  refine ⟨⟨s1.sg.trans s2.sg, fun a o e ha => ?_, fun a ha => ?_, fun a e e2 => ?_⟩, ?_, fun a ha => ?_, fun a ha => ?_⟩
  · refine s2.fr a o (s1.fr a o e ha) fun hb => ?_
    rcases s1.own a (List.mem_append_right _ hb) with q | q
    · exact ha q
    · rw [e] at q; cases q
  · rcases List.mem_append.mp ha with ha | ha
    · exact s1.own a (List.mem_append_left _ ha)
    · exact key a (s2.own a ha)
  · rcases none_or G1 a with e1 | e1
    · exact key a (s2.gnew a e1 e2)
    · exact s1.gnew a e e1
  · refine List.nodup_append.mpr ⟨(List.nodup_append.mp nd).1, ndB, fun a ha b hb hab => ?_⟩
    subst hab
    rcases s2.own a hb with q | q
    · exact dis a ha q
    · obtain ⟨o, e⟩ := (o1 a ha).2
      rw [e] at q; cases q
  · rcases none_or G2 a with e | e
    · exact e
    · rcases s2.gnew a (o1 a ha).1 e with q | q
      · exact absurd q (dis a ha)
      · obtain ⟨o, e⟩ := (o1 a ha).2
        rw [e] at q; cases q
  · obtain ⟨o, e⟩ := (o1 a ha).2
    rw [e, s2.fr a o e (dis a ha)]
theorem Step.seq0 {A A1 B : List Addr} {G1 H1 G2 H2 : Hp} (s1 : Step A G H A1 G1 H1) (s2 : Step A1 G1 H1 B G2 H2) : Step A G H B G2 H2 := by
  have key : ∀ a, a ∈ A1 ∨ H1 a = none → a ∈ A ∨ H a = none := fun a h => by
    rcases h with h | h
    · exact s1.own a h
    · exact s1.back h
  refine ⟨s1.sg.trans s2.sg, fun a o e ha => ?_, fun a ha => key a (s2.own a ha), fun a e e2 => ?_⟩
  · refine s2.fr a o (s1.fr a o e ha) fun hb => ?_
    rcases s1.own a hb with q | q
    · exact ha q
    · rw [e] at q; cases q
  · rcases none_or G1 a with e1 | e1
    · exact key a (s2.gnew a e1 e2)
    · exact s1.gnew a e e1
theorem Step.less {A B B' : List Addr} (s : Step A G H B G' H') (h : ∀ a ∈ B', a ∈ B) : Step A G H B' G' H' := ⟨s.sg, s.fr, fun a ha => s.own a (h a ha), s.gnew⟩
theorem new_s {A : List Addr} {m : List Ty} {σ : St} {e : List PyData} {p : Addr} {o : HO} (st : Stt K m G H σ e A) (hp : H p = none) :
    Step A G H A (upd G p o) (upd H p o) ∧ Stt K m (upd G p o) (upd H p o) σ e A ∧ Same G (upd G p o) := by
  have gp : G p = none := st.sub.free hp
  have sg : Same G (upd G p o) := fun b x hx => by rw [upd_ne (ne_of_none hx gp)]; exact hx
  have nA : ∀ a ∈ A, a ≠ p := fun a ha q => by
    obtain ⟨_, o, e⟩ := ownA_at st.own a ha
    rw [q, hp] at e; cases e
  refine ⟨⟨sg, fun a x hx _ => by rw [upd_ne (ne_of_none hx hp)]; exact hx, fun a ha => .inl ha, fun a e1 ⟨x, e2⟩ => ?_⟩, ⟨ownA_fr st.own sg (fun a ha => ?_) (fun a ha => upd_ne (nA a ha)), st.nd, fun b x hx => ?_⟩, sg⟩
  · by_cases q : a = p
    · subst q; exact .inr hp
    · rw [upd_ne q, e1] at e2; cases e2
  · rw [upd_ne (nA a ha)]; exact (ownA_at st.own a ha).1
  · by_cases q : b = p
    · subst q; rw [upd_same] at hx ⊢; exact hx
    · rw [upd_ne q] at hx ⊢; exact st.sub b x hx
theorem new_o {A B : List Addr} {m : List Ty} {σ : St} {e : List PyData} {p : Addr} {o : HO} (st : Stt K m G H σ e A) (hp : H p = none) :
    Step A G H (p :: A) G (upd H p o) ∧ Stt K m G (upd H p o) σ e A ∧ (p :: A).Nodup ∧ G p = none := by
  have gp : G p = none := st.sub.free hp
  have nA : ∀ a ∈ A, a ≠ p := fun a ha q => by
    obtain ⟨_, o, e⟩ := ownA_at st.own a ha
    rw [q, hp] at e; cases e
  refine ⟨⟨Same.refl G, fun a x hx _ => by rw [upd_ne (ne_of_none hx hp)]; exact hx, fun a ha => ?_, fun a e1 ⟨x, e2⟩ => by rw [e1] at e2; cases e2⟩,
    ⟨ownA_fr st.own (Same.refl G) (fun a ha => (ownA_at st.own a ha).1) (fun a ha => upd_ne (nA a ha)), st.nd, fun b x hx => ?_⟩, ?_, gp⟩
  · rcases List.mem_cons.mp ha with rfl | ha
    · exact .inr hp
    · exact .inl ha
  · rw [upd_ne (ne_of_none hx gp)]; exact st.sub b x hx
  · exact List.nodup_cons.mpr ⟨fun h => nA p h rfl, st.nd⟩
theorem frz {A Av : List Addr} {m : List Ty} {σ : St} {e : List PyData} (st : Stt K m G H σ e A) (hv : ∀ a ∈ Av, G a = none ∧ ∃ o, H a = some o) (nd : (Av ++ A).Nodup) :
    Step (Av ++ A) G H A (lay G H Av) H ∧ Stt K m (lay G H Av) H σ e A ∧ Same G (lay G H Av) ∧ ∀ a ∈ Av, lay G H Av a = H a := by
  have dis : ∀ a ∈ A, a ∉ Av := fun a ha hb => (List.nodup_append.mp nd).2.2 a hb a ha rfl
  have sg : Same G (lay G H Av) := fun b x hx => by
    by_cases q : b ∈ Av
    · rw [(hv b q).1] at hx; cases hx
    · rw [lay_out q]; exact hx
  refine ⟨⟨sg, fun a o h _ => h, fun a ha => .inl (List.mem_append_right _ ha), fun a e1 ⟨o, e2⟩ => ?_⟩, ⟨ownA_fr st.own sg (fun a ha => ?_) (fun _ _ => rfl), st.nd, fun b x hx => ?_⟩, sg, fun a ha => lay_in ha⟩
  · by_cases q : a ∈ Av
    · exact .inl (List.mem_append_left _ q)
    · rw [lay_out q, e1] at e2; cases e2
  · rw [lay_out (dis a ha)]; exact (ownA_at st.own a ha).1
  · by_cases q : b ∈ Av
    · rw [lay_in q] at hx; exact hx
    · rw [lay_out q] at hx; exact st.sub b x hx
end
end DL
namespace DL
open PySem L2 PySem.Spec PyProof.Rows
section
variable {X : Cx} {pins : List (Addr × Obj)} {σ : L2.St} {H : Hp} {s : Shared} {Q : VK} {xs : List V} {its : List Value} {tk : Nat}
theorem newT_ep (I : Inv X pins σ H s) (r : Vals xs its) (hz : xs.length ≤ sizeLine) (q : NewT H xs Q) : EP X pins σ Q (.ref s.heap.objs.size) { s with heap := s.heap.push { cls := .type "tuple", data := .seq its.toArray }, toks := s.toks } := by
  have hg : (s.heap.push { cls := .type "tuple", data := .seq its.toArray }).get? s.heap.objs.size = some { cls := .type "tuple", data := .seq its.toArray } := Heap.get?_push_size _ rfl
  exact ⟨.ref s.heap.objs.size, _, I.laid (t' := s.toks) (o := .frz { cls := .type "tuple", data := .seq its.toArray } (.tup xs)) (fun b ob e => Heap.get?_push_of_some _ e) (Nat.le_refl _) ⟨hg, hz, its, r, _, hg, rfl, _, rfl⟩, rfl, q _ { cls := .type "tuple", data := .seq its.toArray } rfl rfl (I.hok.fresh (Nat.le_refl _))⟩
def tTupN (t : TA) : TE := fun σ H Q => t σ H fun xs H1 => xs.length ≤ sizeLine ∧ NewT H1 xs Q
theorem pe_tupN {es : List Expr} {t : TA} {pos : Pos} {x1} (h : PA X es t) : PE X (.Tuple es x1 pos) (tTupN t) := by
  refine ⟨fun pins s σ H Q I hq => ?_⟩
  refine wpAny_Tuple_spliced (thn (h.run pos pins s σ H _ I hq) fun vs s2 ⟨ys, H2, I2, rr, zz, qq⟩ => ⟨by rw [← rr.length]; exact zz, ?_⟩)
  exact newT_ep I2 rr zz qq
def rCatN (K : PySem.W.Frag) : R2 := fun x y H Q => ∃ a b xs ys, x = .ref a ∧ y = .ref b ∧ SqT K H a xs ∧ SqT K H b ys ∧ xs.length + ys.length ≤ sizeLine ∧
  (xs = [] → Q (.ref b) H) ∧ (xs ≠ [] → ys = [] → Q (.ref a) H) ∧ (xs ≠ [] → ys ≠ [] → NewT H (xs ++ ys) Q)
theorem op_catN : OpR X (binaryOp .Add) (rCatN X.K) := by
  intro pins s σ H x y v u Q I rx ry h
  obtain ⟨a, b, xs, ys, rfl, rfl, ha, hb, hz, q0, q1, q2⟩ := h
  by_cases hx : xs = []
  · refine op_catA pins s σ H _ _ v u Q I rx ry ⟨a, b, xs, ys, rfl, rfl, ha, hb, hz, q0, fun z => absurd hx z, fun z => absurd hx z⟩
  · cases rx
    cases ry
    obtain ⟨is1, r1, p1, _⟩ := I.tuple ha
    obtain ⟨is2, r2, p2, _⟩ := I.tuple hb
    refine HT.cat_tup p1 p2 (fun z => hx (r1.nil_iff.mp z)) (fun z => ⟨.ref a, H, I, rfl, q1 hx (r2.nil_iff.mp z)⟩) (fun z => ?_) (by rw [← r1.length, ← r2.length]; exact hz)
    exact newT_ep I (r1.append r2) (by rw [List.length_append]; exact hz) (q2 hx fun w => z (r2.nil_iff.mpr w))
def rRepN (K : PySem.W.Frag) : R2 := fun x y H Q => ∃ l k xs, x = .ref l ∧ y = .int k ∧ SqT K H l xs ∧ xs ≠ [] ∧ 2 ≤ k ∧ k ≤ 1000 ∧ xs.length ≤ 1000 ∧ NewT H (List.replicate k.toNat xs).flatten Q
theorem op_repN : OpR X (binaryOp .Mult) (rRepN X.K) := by
  intro pins s σ H x y v u Q I rx ry h
  obtain ⟨l, n0, xs, rfl, rfl, hT, hne, h1, h2, hz, q⟩ := h
  cases rx
  obtain ⟨t, rfl⟩ := ry
  obtain ⟨is1, r1, ⟨⟨cls, dc, data, sl⟩, ho, hc, n, hd⟩, hs⟩ := I.tuple hT
  simp only at hc hd
  subst hc hd
  have ln : is1.length = xs.length := r1.length.symm
  have ne1 : is1.toArray.isEmpty = false := by
    cases is1 with
    | nil => exact absurd (List.eq_nil_of_length_eq_zero ln.symm) hne
    | cons a b => rfl
  have sz : is1.toArray.size = xs.length := by rw [List.size_toArray, ln]
  have hm : ((is1.toArray.size : Nat) : Int) * n0 ≤ 1000000 := by
    rw [sz]
    have : ((xs.length : Nat) : Int) * n0 ≤ 1000 * n0 := Int.mul_le_mul_of_nonneg_right (by omega) (by omega)
    omega
  have fl : (List.replicate n0.toNat is1).flatten.length ≤ sizeLine := by
    rw [PyProof.Rows.lm_len_rep_flat, ln, sizeLine_eq]
    have : n0.toNat * xs.length ≤ 1000 * 1000 := Nat.mul_le_mul (by omega) hz
    omega
  have g0 : (decide (n0 < -(2 ^ 63)) || decide (n0 ≥ 2 ^ 63)) = false := by
    rw [decide_eq_false (by omega), decide_eq_false (by omega)]; rfl
  have g1 : (is1.toArray.isEmpty || n0 == 1) = false := by
    rw [ne1, Bool.false_or]; exact beq_eq_false_iff_ne.mpr (by omega)
  have g2 : (decide (n0 ≤ 0) || is1.toArray.isEmpty) = false := by
    rw [ne1, Bool.or_false]; exact decide_eq_false (by omega)
  have g4 : Builtin.Tuple.tupleTooMany (((is1.toArray.size : Nat) : Int) * n0) = false := by
    unfold Builtin.Tuple.tupleTooMany
    rw [sizeLine_eq]; exact decide_eq_false (by omega)
  have g3 : ¬ ((is1.toArray.size : Nat) : Int) * n0 > (2 ^ 63 - 1) / 8 := by omega
  have fz : (List.replicate n0.toNat xs).flatten.length ≤ sizeLine := by
    rw [PyProof.Rows.lm_len_rep_flat] at fl ⊢
    rw [← ln]; exact fl
  have W := tuple_mulW l is1.toArray n dc sl n0 t g0 g1 g2 g3 g4 (by rw [size_rep, List.size_toArray]; exact fl)
  refine wpAny_binaryOp_repeat_ref (T := "tuple") (U := "int") (by decide) ⟨_, ho, rfl⟩ (fun s1 => typeIs_int s1 n0 t) noFill_tuple_mul F.fills_int_mul F.slot_int_rmul repeat_tuple F.slot_int_index.lookup ?_
  refine call_meets F.slot_int_rmul (typeIs_int s n0 t) F.entry_int_rmul (F.args_int_rmul_2 _ _) (int_rmul_tuple n0 t l is1.toArray n dc sl) ⟨ho, rfl, ⟨_, ho, rfl⟩, ?_⟩
  refine call_meets F.slot_tuple_mul ⟨_, ho, rfl⟩ F.entry_tuple_mul (F.args_tuple_mul_2 _ _) W ⟨ho, ?_⟩
  rw [size_rep]
  exact newT_ep I (r1.rep n0.toNat) fz q
end
end DL
namespace DL
open PySem L2 PySem.Spec
abbrev En := List PyData
abbrev Ef := En → Option (PyData × En)
abbrev Bf := En → Option (Bool × En)
abbrev Lf := En → Option (List PyData × En)
section
variable {K : PySem.W.Frag} {G G' H H' : Hp}
theorem ownA_take {ts : List Ty} {ds : List PyData} {vs : List (Option V)} {A : List Addr} (h : OwnA K G H ts ds vs A) {j : Nat} {t : Ty} (e : ts[j]? = some t) :
    ∃ d v Aj A0, ds[j]? = some d ∧ vs[j]? = some v ∧ Own K G H t d v Aj ∧ OwnA K G H (ts.set j .u) ds vs A0 ∧ A.Perm (Aj ++ A0) := by
  induction ts generalizing ds vs A j with
  | nil => simp at e
  | cons t0 ts ih =>
    cases h with
    | @cons _ _ d ds v vs A B h1 h2 =>
      cases j with
      | zero =>
        simp at e; subst e
        exact ⟨d, v, A, B, rfl, rfl, h1, by simpa using OwnA.cons (.u d v) h2, List.Perm.refl _⟩
      | succ j =>
        obtain ⟨d', v', Aj, A0, e1, e2, o1, o2, p⟩ := ih h2 (by simpa using e)
        refine ⟨d', v', Aj, A ++ A0, by simpa using e1, by simpa using e2, o1, OwnA.cons h1 o2, ?_⟩
        exact (List.Perm.append_left A p).trans (by rw [← List.append_assoc, ← List.append_assoc]; exact List.Perm.append_right _ List.perm_append_comm)
theorem ownA_put {ts : List Ty} {ds : List PyData} {vs : List (Option V)} {A0 : List Addr} (h : OwnA K G H ts ds vs A0) {j : Nat} (hj : ts[j]? = some .u) {t : Ty} {d : PyData} {v : Option V} {Aj : List Addr} (o : Own K G H t d v Aj) :
    ∃ A, OwnA K G H (ts.set j t) (ds.set j d) (vs.set j v) A ∧ A.Perm (Aj ++ A0) := by
  induction ts generalizing ds vs A0 j with
  | nil => simp at hj
  | cons t0 ts ih =>
    cases h with
    | @cons _ _ d0 ds v0 vs A B h1 h2 =>
      cases j with
      | zero =>
        simp at hj; subst hj
        cases h1
        exact ⟨Aj ++ B, by simpa using OwnA.cons o h2, by simp⟩
      | succ j =>
        obtain ⟨A', o2, p⟩ := ih h2 (by simpa using hj)
        refine ⟨A ++ A', by simpa using OwnA.cons h1 o2, ?_⟩
        exact (List.Perm.append_left A p).trans (by rw [← List.append_assoc, ← List.append_assoc]; exact List.Perm.append_right _ List.perm_append_comm)
theorem ownA_hide {ts : List Ty} {ds : List PyData} {vs : List (Option V)} {A : List Addr} (h : OwnA K G H ts ds vs A) (j : Nat) : ∃ A0, OwnA K G H (ts.set j .u) ds vs A0 ∧ ∃ B, A.Perm (B ++ A0) := by
  cases e : ts[j]? with
  | none => exact ⟨A, by rw [List.set_eq_of_length_le (by simpa using e)]; exact h, [], by simp⟩
  | some t =>
    obtain ⟨d, v, Aj, A0, _, _, _, o, p⟩ := ownA_take h e
    exact ⟨A0, o, Aj, p⟩
theorem ownA_getS {ts : List Ty} {ds : List PyData} {vs : List (Option V)} {A : List Addr} (h : OwnA K G H ts ds vs A) {j : Nat} (e : ts[j]? = some .s) : ∃ d v, ds[j]? = some d ∧ vs[j]? = some (some v) ∧ Dq K G v d := by
  obtain ⟨d, v, Aj, A0, e1, e2, o, _, _⟩ := ownA_take h e
  cases o with
  | s h => exact ⟨d, _, e1, e2, h⟩
end
theorem set_id {α : Type} {l : List α} {j : Nat} {x : α} (h : l[j]? = some x) : l.set j x = l := by
  apply List.ext_getElem?
  intro i
  rw [List.getElem?_set]
  split
  · rename_i hij; subst hij
    obtain ⟨h1, h2⟩ := List.getElem?_eq_some_iff.mp h
    simp [h1, h2]
  · rfl
theorem stt_frz {K : PySem.W.Frag} {G H : Hp} {m : List Ty} {σ : St} {e : En} {A : List Addr} {j : Nat} {t : Ty} (st : Stt K m G H σ e A) (hm : m[j]? = some t) (hn : nou t = true) :
    ∃ G' A', Step A G H A' G' H ∧ Stt K (m.set j .s) G' H σ e A' := by
  obtain ⟨d', v, Aj, A0, h1, h2, h3, h4, hp⟩ := ownA_take st.own hm
  have nd : (Aj ++ A0).Nodup := hp.nodup_iff.mp st.nd
  have st0 : Stt K (m.set j .u) G H σ e A0 := ⟨h4, (List.nodup_append.mp nd).2.1, st.sub⟩
  obtain ⟨s1, st1, sg, hl⟩ := frz st0 (own_at h3) nd
  obtain ⟨x, rfl, q⟩ := own_frz h3 sg hl hn
  have hj : (m.set j .u)[j]? = some .u := by
    have := (List.getElem?_eq_some_iff.mp hm).1
    simp [this]
  obtain ⟨A', o', p'⟩ := ownA_put st1.own hj (.s q)
  rw [set_id h1, set_id h2, List.set_set] at o'
  have pA : A'.Perm A0 := by simpa using p'
  refine ⟨_, A', ⟨s1.sg, fun a o h _ => h, fun a ha => .inl (hp.mem_iff.mpr (List.mem_append_right _ (pA.mem_iff.mp ha))), fun a h1 h2 => .inl ((s1.gnew a h1 h2).elim (fun z => hp.mem_iff.mpr z) fun z => ?_)⟩, ⟨o', pA.nodup_iff.mpr st1.nd, st1.sub⟩⟩
  obtain ⟨o, ho⟩ := h2
  by_cases q : a ∈ Aj
  · exact hp.mem_iff.mpr (List.mem_append_left _ q)
  · rw [lay_out q, h1] at ho; cases ho
def DE (K : PySem.W.Frag) (m : List Ty) (te : TE) (ty : Ty) (f : Ef) (m' : List Ty) : Prop :=
  ∀ {G H : Hp} {σ : St} {e : En} {A : List Addr} {d : PyData} {e' : En} {Q : VK}, Stt K m G H σ e A → f e = some (d, e') →
    (∀ (G' H' : Hp) (v : V) (Av A' : List Addr), Step A G H (Av ++ A') G' H' → Stt K m' G' H' σ e' A' → Own K G' H' ty d (some v) Av → (Av ++ A').Nodup → Q v H') → te σ H Q
def DT (K : PySem.W.Frag) (m : List Ty) (tt : TT) (f : Bf) (m' : List Ty) : Prop :=
  ∀ {G H : Hp} {σ : St} {e : En} {A : List Addr} {b : Bool} {e' : En} {Q : Bool → Hp → Prop}, Stt K m G H σ e A → f e = some (b, e') →
    (∀ (G' H' : Hp) (A' : List Addr), Step A G H A' G' H' → Stt K m' G' H' σ e' A' → Q b H') → tt σ H Q
def DA (K : PySem.W.Frag) (m : List Ty) (ta : TA) (tys : List Ty) (f : Lf) (m' : List Ty) : Prop :=
  ∀ {G H : Hp} {σ : St} {e : En} {A : List Addr} {ds : List PyData} {e' : En} {Q : List V → Hp → Prop}, Stt K m G H σ e A → f e = some (ds, e') →
    (∀ (G' H' : Hp) (vs : List V) (Av A' : List Addr), Step A G H (Av ++ A') G' H' → Stt K m' G' H' σ e' A' → OwnA K G' H' tys ds (vs.map some) Av → (Av ++ A').Nodup → Q vs H') → ta σ H Q
structure RoomU (k : Nat) (A : Around) : Prop where
  dp : A.depth + 3 * k + 5 < recursionLimit
  un : A.units + 16 * k + 200 < cLine
theorem _root_.L2.Room.u {k : Nat} {A : Around} (r : Room k A) : RoomU k A := ⟨r.dp, r.un⟩
class Fam {ι : Type} (Xf : ι → Cx) (P : outParam Program) (w : outParam World) (K : outParam PySem.W.Frag) (mg : outParam (Str → Option Value)) (base : outParam Heap) (n : outParam Nat) : Prop where
  prog : ∀ i, (Xf i).prog = P
  w_ : ∀ i, (Xf i).w = w
  kk : ∀ i, (Xf i).K = K
  mg_ : ∀ i, (Xf i).mg = mg
  base_ : ∀ i, (Xf i).base = base
  room : ∀ i, RoomU n (Xf i).A
  nd : ∀ i, (Xf i).N.Nodup
structure PD {ι : Type} (Xf : ι → Cx) (K : PySem.W.Frag) (m : List Ty) (e : Expr) (ty : Ty) (f : Ef) (m' : List Ty) : Prop where
  ex : ∃ te : TE, (∀ i, PE (Xf i) e te) ∧ DE K m te ty f m'
structure PB {ι : Type} (Xf : ι → Cx) (K : PySem.W.Frag) (m : List Ty) (e : Expr) (f : Bf) (m' : List Ty) : Prop where
  ex : ∃ tt : TT, (∀ i, PT (Xf i) e tt) ∧ DT K m tt f m'
structure PBw {ι : Type} (Xf : ι → Cx) (K : PySem.W.Frag) (m : List Ty) (e : Expr) (f : Bf) (m' : List Ty) : Prop where
  ex : ∃ tt : TT, (∀ i, PW (Xf i) e tt) ∧ DT K m tt f m'
structure PL {ι : Type} (Xf : ι → Cx) (K : PySem.W.Frag) (m : List Ty) (es : List Expr) (tys : List Ty) (f : Lf) (m' : List Ty) : Prop where
  ex : ∃ ta : TA, (∀ i, PA (Xf i) es ta) ∧ DA K m ta tys f m'
def D1 (K : PySem.W.Frag) (r : V → Hp → VK → Prop) (ty : Ty) (g : PyData → Option PyData) : Prop :=
  ∀ {m : List Ty} {G H : Hp} {σ : St} {e : En} {A : List Addr} {x : V} {dx d : PyData} {Q : VK}, Stt K m G H σ e A → Dq K G x dx → g dx = some d →
    (∀ (G' H' : Hp) (v : V) (Av A' : List Addr), Step A G H (Av ++ A') G' H' → Stt K m G' H' σ e A' → Own K G' H' ty d (some v) Av → (Av ++ A').Nodup → Q v H') → r x H Q
def D2 (K : PySem.W.Frag) (r : R2) (ty : Ty) (g : PyData → PyData → Option PyData) : Prop :=
  ∀ {m : List Ty} {G H : Hp} {σ : St} {e : En} {A : List Addr} {x y : V} {dx dy d : PyData} {Q : VK}, Stt K m G H σ e A → Dq K G x dx → Dq K G y dy → g dx dy = some d →
    (∀ (G' H' : Hp) (v : V) (Av A' : List Addr), Step A G H (Av ++ A') G' H' → Stt K m G' H' σ e A' → Own K G' H' ty d (some v) Av → (Av ++ A').Nodup → Q v H') → r x y H Q
structure Op2 {ι : Type} (Xf : ι → Cx) (K : PySem.W.Frag) (op : Value → Value → Sem Value) (ty : Ty) (g : PyData → PyData → Option PyData) : Prop where
  ex : ∃ r : R2, (∀ i, OpR (Xf i) op r) ∧ D2 K r ty g
structure Ix2 {ι : Type} (Xf : ι → Cx) (K : PySem.W.Frag) (ty : Ty) (g : PyData → PyData → Option PyData) : Prop where
  ex : ∃ r : R2, (∀ i, IxR (Xf i) r) ∧ D2 K r ty g
structure Cl1 {ι : Type} (Xf : ι → Cx) (K : PySem.W.Frag) (fn : Value) (ty : Ty) (g : PyData → Option PyData) : Prop where
  ex : ∃ r : List V → Hp → VK → Prop, (∀ i, CallR (Xf i) fn r) ∧ D1 K (fun x => r [x]) ty g
structure Cl2 {ι : Type} (Xf : ι → Cx) (K : PySem.W.Frag) (fn : Value) (ty : Ty) (g : PyData → PyData → Option PyData) : Prop where
  ex : ∃ r : List V → Hp → VK → Prop, (∀ i, CallR (Xf i) fn r) ∧ D2 K (fun x y => r [x, y]) ty g
section
variable {K : PySem.W.Frag} {G H : Hp} {m : List Ty} {σ : St} {e : En} {A : List Addr} {d : PyData} {Q : VK} {ty : Ty}
theorem ans_s (st : Stt K m G H σ e A) {v : V} (h : Dq K G v d) (k : ∀ (G' H' : Hp) (v : V) (Av A' : List Addr), Step A G H (Av ++ A') G' H' → Stt K m G' H' σ e A' → Own K G' H' .s d (some v) Av → (Av ++ A').Nodup → Q v H') : Q v H :=
  k G H v [] A Step.refl st (.s h) st.nd
theorem ans_tup (st : Stt K m G H σ e A) {vs : List V} {ds : List PyData} (h : DqA K G vs ds) (hz : vs.length ≤ sizeLine) (k : ∀ (G' H' : Hp) (v : V) (Av A' : List Addr), Step A G H (Av ++ A') G' H' → Stt K m G' H' σ e A' → Own K G' H' .s (.tuple ds) (some v) Av → (Av ++ A').Nodup → Q v H') :
    NewT H vs Q := fun p o hc hd hp => by
  obtain ⟨s1, st1, sg⟩ := new_s (o := .frz o (.tup vs)) st hp
  have h' := h.mono sg
  exact k _ _ _ [] A s1 st1 (.s (.tup (.inl ⟨o, hc, hd, upd_same⟩) h'.1 hz h'.2)) st1.nd
theorem ownA_of {G H : Hp} : ∀ {vs : List V} {ds : List PyData}, DqA K G vs ds → OwnA K G H (List.replicate ds.length .s) ds (vs.map some) []
  | [], [], _ => .nil
  | v :: vs, d :: ds, h => OwnA.cons (A := []) (.s h.head) (ownA_of h.tail)
  | [], _ :: _, h => by have := h.1; simp at this
  | _ :: _, [], h => by have := h.1; simp at this
theorem of_ownA {G H : Hp} : ∀ {n : Nat} {vs : List V} {ds : List PyData} {A : List Addr}, OwnA K G H (List.replicate n .s) ds (vs.map some) A → A = [] ∧ DqA K G vs ds
  | 0, [], _, _, h => by cases h; exact ⟨rfl, DqA.nil⟩
  | 0, _ :: _, _, _, h => by cases h
  | n + 1, [], _, _, h => by cases h
  | n + 1, v :: vs, _, _, h => by
    cases h with
    | cons h1 h2 =>
      obtain ⟨e2, q2⟩ := of_ownA (n := n) h2
      cases h1 with
      | s h1 => subst e2; exact ⟨rfl, DqA.cons h1 q2⟩
theorem ans_lst (st : Stt K m G H σ e A) {vs : List V} {ds : List PyData} (h : DqA K G vs ds) (hz : vs.length ≤ sizeLine) (k : ∀ (G' H' : Hp) (v : V) (Av A' : List Addr), Step A G H (Av ++ A') G' H' → Stt K m G' H' σ e A' → Own K G' H' (.l .s) (.list ds) (some v) Av → (Av ++ A').Nodup → Q v H') :
    ∀ p, H p = none → Q (.ref p) (upd H p (.lst vs)) := fun p hp => by
  obtain ⟨s1, st1, nd, gp⟩ := new_o (o := .lst vs) (B := []) st hp
  exact k _ _ _ [p] A s1 st1 (.l gp upd_same hz (ownA_of h)) nd
end
def eVar (j : Nat) : Ef := fun e => some (e.getD j .none, e)
def eC (d : PyData) : Ef := fun e => some (d, e)
def e1 (g : PyData → Option PyData) (a : Ef) : Ef := fun e => (a e).bind fun p => (g p.1).bind fun r => some (r, p.2)
def e2 (g : PyData → PyData → Option PyData) (a b : Ef) : Ef := fun e => (a e).bind fun p => (b p.2).bind fun q => (g p.1 q.1).bind fun r => some (r, q.2)
section
variable {ι : Type} {Xf : ι → Cx} {P : Program} {w : World} {K : PySem.W.Frag} {mg : Str → Option Value} {base : Heap} {n : Nat} [F : Fam Xf P w K mg base n]
variable {m m1 m2 m3 : List Ty} {pos p p2 : Pos} {a b c : Expr} {f g h : Ef}
theorem pd_var (j : Nat) {x : Str} (hm : m[j]? = some .s := by rfl) (hN : ∀ i, (Xf i).N[j]? = some x := by intro _; rfl)
    (hv : ∀ i, Vis (Xf i).env.scope x := by first | (intro _; exact Or.inl rfl) | (intro _; exact Or.inr (Or.inl rfl)) | (intro _; exact Or.inr (Or.inr rfl))) (hd : (x == ("__debug__" : Str)) = false := by decide)
    (hcd : (x == ("__classdict__" : Str)) = false := by decide) : PD Xf K m (.Name x pos) .s (eVar j) m := by
  refine ⟨tVar j, fun i => pe_var (hN i) (hv i) hd hcd, fun {G H σ e A d e' Q} st hf k => ?_⟩
  obtain ⟨d', v, h1, h2, h3⟩ := ownA_getS st.own hm
  cases hf
  rw [List.getD_eq_getElem?_getD, h1] at k
  exact ⟨v, h2, ans_s st h3 k⟩
theorem pd_frzVar (j : Nat) {t : Ty} {x : Str} (hm : m[j]? = some t := by rfl) (hn : nou t = true := by rfl) (hN : ∀ i, (Xf i).N[j]? = some x := by intro _; rfl)
    (hv : ∀ i, Vis (Xf i).env.scope x := by first | (intro _; exact Or.inl rfl) | (intro _; exact Or.inr (Or.inl rfl)) | (intro _; exact Or.inr (Or.inr rfl))) (hd : (x == ("__debug__" : Str)) = false := by decide)
    (hcd : (x == ("__classdict__" : Str)) = false := by decide) : PD Xf K m (.Name x pos) .s (eVar j) (m.set j .s) := by
  refine ⟨tVar j, fun i => pe_var (hN i) (hv i) hd hcd, fun {G H σ e A d e' Q} st hf k => ?_⟩
  obtain ⟨G', A', s0, st2⟩ := stt_frz st hm hn
  obtain ⟨d', v, h1, h2, h3⟩ := ownA_getS st2.own (j := j) (by have := (List.getElem?_eq_some_iff.mp hm).1; simp [this])
  cases hf
  rw [List.getD_eq_getElem?_getD, h1] at k
  exact ⟨v, h2, k _ _ v [] A' s0 st2 (.s h3) st2.nd⟩
theorem pd_int {i : Int} {j} : PD Xf K m (.Constant (.int i) j pos) .s (eC (.int i)) m := ⟨_, fun _ => pe_int, fun {G H σ e A d e' Q} st hf k => by cases hf; exact ans_s st (.int i) k⟩
theorem pd_bool {i : Bool} {j} : PD Xf K m (.Constant (.bool i) j pos) .s (eC (.bool i)) m := ⟨_, fun _ => pe_bl, fun {G H σ e A d e' Q} st hf k => by cases hf; exact ans_s st (.bl i) k⟩
theorem pd_none {j} : PD Xf K m (.Constant .none j pos) .s (eC .none) m := ⟨_, fun _ => pe_non, fun {G H σ e A d e' Q} st hf k => by cases hf; exact ans_s st .non k⟩
theorem pd_str {x : Str} {j} (hx : x.length ≤ sizeLine := by decide +kernel) : PD Xf K m (.Constant (.str x) j pos) .s (eC (.str x)) m := ⟨_, fun _ => pe_str, fun {G H σ e A d e' Q} st hf k => by cases hf; exact ans_s st (.str x hx) k⟩
theorem DE.bin {r : R2} {ta tb : TE} {ty : Ty} {gg : PyData → PyData → Option PyData} (ha : DE K m ta .s f m1) (hb : DE K m1 tb .s g m2) (hr : D2 K r ty gg) : DE K m (tOp r ta tb) ty (e2 gg f g) m2 := by
  intro G H σ e A d e' Q st hf k
  unfold e2 at hf
  obtain ⟨⟨d1, e1⟩, hf1, hf⟩ := oBs hf
  obtain ⟨⟨d2, e2⟩, hf2, hf⟩ := oBs hf
  obtain ⟨d3, hf3, hf⟩ := oBs hf
  cases hf
  refine ha st hf1 fun G1 H1 v1 A1 B1 s1 st1 o1 nd1 => ?_
  cases o1 with
  | s q1 =>
    refine hb st1 hf2 fun G2 H2 v2 A2 B2 s2 st2 o2 nd2 => ?_
    cases o2 with
    | s q2 => exact hr st2 (q1.mono s2.sg) q2 hf3 fun G3 H3 v3 A3 B3 s3 st3 o3 nd3 => k G3 H3 v3 A3 B3 ((s1.seq0 s2).seq0 s3) st3 o3 nd3
theorem DE.un {r : V → Hp → VK → Prop} {ta : TE} {ty : Ty} {gg : PyData → Option PyData} (ha : DE K m ta .s f m1) (hr : D1 K r ty gg) : DE K m (fun σ H Q => ta σ H fun x H1 => r x H1 Q) ty (e1 gg f) m1 := by
  intro G H σ e A d e' Q st hf k
  unfold e1 at hf
  obtain ⟨⟨d1, e1⟩, hf1, hf⟩ := oBs hf
  obtain ⟨d3, hf3, hf⟩ := oBs hf
  cases hf
  refine ha st hf1 fun G1 H1 v1 A1 B1 s1 st1 o1 nd1 => ?_
  cases o1 with
  | s q1 => exact hr st1 q1 hf3 fun G3 H3 v3 A3 B3 s3 st3 o3 nd3 => k G3 H3 v3 A3 B3 (s1.seq0 s3) st3 o3 nd3
theorem pd_bin {op : Operator} {ty : Ty} {gg : PyData → PyData → Option PyData} (ho : Op2 Xf K (binaryOp op) ty gg) (ha : PD Xf K m a .s f m1) (hb : PD Xf K m1 b .s g m2) : PD Xf K m (.BinOp a op b pos) ty (e2 gg f g) m2 := by
  obtain ⟨r, hr, dr⟩ := ho.ex
  obtain ⟨ta, pa, da⟩ := ha.ex
  obtain ⟨tb, pb, db⟩ := hb.ex
  exact ⟨_, fun i => pe_op (hr i) (pa i) (pb i), DE.bin da db dr⟩
theorem pd_cmp {op : CmpOp} {ty : Ty} {gg : PyData → PyData → Option PyData} (ho : Op2 Xf K (compareOp op) ty gg) (ha : PD Xf K m a .s f m1) (hb : PD Xf K m1 b .s g m2) (hm : behindInMarks op b = false := by first | exact nomark _ | rfl) : PD Xf K m (.Compare a [op] [b] pos) ty (e2 gg f g) m2 := by
  obtain ⟨r, hr, dr⟩ := ho.ex
  obtain ⟨ta, pa, da⟩ := ha.ex
  obtain ⟨tb, pb, db⟩ := hb.ex
  exact ⟨_, fun i => pe_cmpR (hr i) (pa i) (pb i) hm, DE.bin da db dr⟩
theorem pd_ix {ty : Ty} {gg : PyData → PyData → Option PyData} (ho : Ix2 Xf K ty gg) (ha : PD Xf K m a .s f m1) (hb : PD Xf K m1 b .s g m2) (hs : PlainIx b := by exact fun _ _ => rfl) : PD Xf K m (.Subscript a b pos) ty (e2 gg f g) m2 := by
  obtain ⟨r, hr, dr⟩ := ho.ex
  obtain ⟨ta, pa, da⟩ := ha.ex
  obtain ⟨tb, pb, db⟩ := hb.ex
  exact ⟨_, fun i => pe_ix (hr i) (pa i) (pb i) hs, DE.bin da db dr⟩
theorem pd_frz {ty : Ty} (ha : PD Xf K m a ty f m1) (hn : nou ty = true := by rfl) : PD Xf K m a .s f m1 := by
  obtain ⟨ta, pa, da⟩ := ha.ex
  refine ⟨ta, pa, fun {G H σ e A d e' Q} st hf k => da st hf fun G1 H1 v1 A1 B1 s1 st1 o1 nd1 => ?_⟩
  obtain ⟨s2, st2, sg, hl⟩ := frz st1 (own_at o1) nd1
  obtain ⟨x, hx, q⟩ := own_frz o1 sg hl hn
  cases hx
  have s0 : Step A G H ([] ++ B1) (lay G1 H1 A1) H1 := s1.seq0 s2
  exact k _ _ v1 [] B1 s0 st2 (.s q) st2.nd
end
end DL
namespace DL
open PySem L2 PySem.Spec
mutual
def noOb : PyData → Bool
  | .list xs => noObA xs
  | .tuple xs => noObA xs
  | .dict kvs => (match kvs with | [(.tuple _, _)] => false | _ => true)
  | _ => true
def noObA : List PyData → Bool
  | [] => true
  | x :: xs => noOb x && noObA xs
end
theorem noObA_at : ∀ {xs : List PyData}, noObA xs = true → ∀ {i : Nat} {d : PyData}, xs[i]? = some d → noOb d = true
  | [], _, i, d, h => by simp at h
  | x :: xs, h, i, d, e => by
    have h := (Bool.and_eq_true ..).mp (show (noOb x && noObA xs) = true from h)
    cases i with
    | zero => simp at e; subst e; exact h.1
    | succ i => exact noObA_at h.2 (i := i) (by simpa using e)
mutual
theorem plain_noOb : ∀ d : PyData, d.plain = true → noOb d = true
  | .none, _ => rfl
  | .bool _, _ => rfl
  | .int _, _ => rfl
  | .str _, _ => rfl
  | .list xs, h => plainAll_noOb xs h
  | .tuple xs, h => plainAll_noOb xs h
  | .dict _, h => by cases h
theorem plainAll_noOb : ∀ xs : List PyData, PyData.plainAll xs = true → noObA xs = true
  | [], _ => rfl
  | x :: xs, h => by
    have h := (Bool.and_eq_true ..).mp (show (x.plain && PyData.plainAll xs) = true from h)
    exact (Bool.and_eq_true ..).mpr ⟨plain_noOb x h.1, plainAll_noOb xs h.2⟩
end
theorem ft_noOb : ∀ (n : Nat) {d : PyData}, ftS n d = true → noOb d = true
  | n, .none, _ => rfl
  | n, .bool _, _ => rfl
  | n, .int _, _ => rfl
  | n, .str _, _ => rfl
  | n + 1, .tuple xs, h => by
    have h : xs.all (ftS n) = true := h
    show noObA xs = true
    have key : ∀ xs : List PyData, xs.all (ftS n) = true → noObA xs = true := fun xs => by
      induction xs with
      | nil => intro _; rfl
      | cons x xs ih =>
        intro h
        rw [List.all_cons, Bool.and_eq_true] at h
        exact (Bool.and_eq_true ..).mpr ⟨ft_noOb n h.1, ih h.2⟩
    exact key xs h
  | 0, .tuple _, h => by cases h
  | n, .list _, h => by cases n <;> cases h
  | n, .dict _, h => by cases n <;> cases h
section
variable {X : Cx} {pins : List (Addr × Obj)} {σ : St} {H : Hp} {s : Shared}
theorem rdL (I : Inv X pins σ H s) {a : Addr} {xs : List V} (h : Rd H a (.lst xs)) : xs.length ≤ sizeLine ∧ ∃ (its : List Value) (n : Nat), Vals xs its ∧ s.heap.get? a = some { cls := .type "list", data := .seq its.toArray n } := h.ok I.hok
theorem rdD (I : Inv X pins σ H s) {a : Addr} {kvs : List (Str × Int)} (h : Rd H a (.dK (kvs.map fun p => (Sum.inr p.1, V.int p.2)))) :
    ∃ o es ep, s.heap.get? a = some o ∧ o.ExactDict ∧ o.data = .dict es ep ∧ Paired (fun (e : DictEntry) (p : Str × Int) => (∃ t, e.key = .str p.1 t) ∧ ∃ t, e.val = .int p.2 t) es.toList kvs ∧ (a == sysModules) = false := by
  have k : ∃ vs, KV (kvs.map fun p => ((Sum.inr p.1 : Key), V.int p.2)) vs ∧ s.heap.DictOf (mixKind X.prog X.w) a vs := by
    rcases h with h | ⟨o, h⟩
    · obtain ⟨_, _, vs, r, m⟩ : _ ∧ (a == sysModules) = false ∧ ∃ vs, KV _ vs ∧ s.heap.DictOf (mixKind X.prog X.w) a vs := I.hok a _ h
      exact ⟨vs, r, m⟩
    · obtain ⟨_, _, _, vs, r, m⟩ : _ ∧ (_ ∧ (a == sysModules) = false ∧ ∃ vs, KV _ vs ∧ s.heap.DictOf (mixKind X.prog X.w) a vs) := I.hok a _ h
      exact ⟨vs, r, m⟩
  have hne : (a == sysModules) = false := by
    rcases h with h | ⟨o, h⟩
    · obtain ⟨_, z, _⟩ : _ ∧ (a == sysModules) = false ∧ ∃ vs, KV _ vs ∧ s.heap.DictOf (mixKind X.prog X.w) a vs := I.hok a _ h
      exact z
    · obtain ⟨_, _, z, _⟩ : _ ∧ (_ ∧ (a == sysModules) = false ∧ ∃ vs, KV _ vs ∧ s.heap.DictOf (mixKind X.prog X.w) a vs) := I.hok a _ h
      exact z
  obtain ⟨vs, r, o, es, ep, h1, h2, h3, h4, h5, h6⟩ := k
  clear h4 h6
  refine ⟨o, es, ep, h1, h2, h3, ?_, hne⟩
  generalize es.toList = el at h5
  clear h1 h2 h3 hne h
  revert r
  induction h5 generalizing kvs with
  | nil =>
    intro r
    cases kvs with
    | nil => exact .nil
    | cons p kvs => cases r
  | @cons e kv es' kvs' hk hv _ ih =>
    intro r
    cases kvs with
    | nil => cases r
    | cons p kvs =>
      cases r with
      | cons h t =>
        obtain ⟨ha, hb⟩ := h
        refine .cons ⟨?_, ?_⟩ (ih t)
        · have hk' : keyIs (Sum.inr p.1) e.key = true := by rw [← ha] at hk; exact hk
          rcases keyIs_shape hk' with ⟨i, t, z, _⟩ | ⟨x, t, z, q⟩
          · cases z
          · cases z; exact ⟨t, q⟩
        · obtain ⟨t, q⟩ := hb
          exact ⟨t, by rw [hv, q]⟩
theorem rdD1 (I : Inv X pins σ H s) {a : Addr} {k : Str} {v : V} (h : Rd H a (.dK [(Sum.inr k, v)])) :
    ∃ o es ep, s.heap.get? a = some o ∧ o.ExactDict ∧ o.data = .dict es ep ∧ (∃ e t, es.toList = [e] ∧ e.key = .str k t ∧ RelV v e.val) ∧ (a == sysModules) = false := by
  have kk : (a == sysModules) = false ∧ ∃ vs, KV [((Sum.inr k : Key), v)] vs ∧ s.heap.DictOf (mixKind X.prog X.w) a vs := by
    rcases h with h | ⟨o, h⟩
    · obtain ⟨_, z, vs, r, m⟩ : _ ∧ (a == sysModules) = false ∧ ∃ vs, KV _ vs ∧ s.heap.DictOf (mixKind X.prog X.w) a vs := I.hok a _ h
      exact ⟨z, vs, r, m⟩
    · obtain ⟨_, _, z, vs, r, m⟩ : _ ∧ (_ ∧ (a == sysModules) = false ∧ ∃ vs, KV _ vs ∧ s.heap.DictOf (mixKind X.prog X.w) a vs) := I.hok a _ h
      exact ⟨z, vs, r, m⟩
  obtain ⟨hne, vs, r, o, es, ep, h1, h2, h3, h4, h5, h6⟩ := kk
  refine ⟨o, es, ep, h1, h2, h3, ?_, hne⟩
  generalize es.toList = el at h5
  clear h1 h2 h3 h4 h6 hne h
  cases vs with
  | nil => cases r
  | cons q qs =>
    cases r with
    | cons r1 r2 =>
      cases r2
      cases h5 with
      | @cons e kv es' kvs' hk hv h5' =>
        cases h5'
        obtain ⟨ha, hb⟩ := r1
        have hk' : keyIs (Sum.inr k) e.key = true := by rw [show (Sum.inr k : Key) = q.1 from ha]; exact hk
        rcases keyIs_shape hk' with ⟨i, t, z, _⟩ | ⟨x, t, z, w⟩
        · cases z
        · cases z
          exact ⟨e, t, rfl, w, by rw [hv]; exact hb⟩
theorem reads_ft {h : Heap} : ∀ (n : Nat) {d : PyData} {u : Value} {as : List Addr}, ftS n d = true → Reads h u d as → as = []
  | n, .none, _, _, _, r => by cases r; rfl
  | n, .bool _, _, _, _, r => by cases r; rfl
  | n, .int _, _, _, _, r => by cases r; rfl
  | n, .str _, _, _, _, r => by cases r; rfl
  | n + 1, .tuple xs, _, _, hf, r => by
    cases r with
    | tuple _ _ _ ra =>
      have hf : xs.all (ftS n) = true := hf
      have key : ∀ (xs : List PyData) (us : List Value) (as : List Addr), xs.all (ftS n) = true → ReadsAll h us xs as → as = [] := fun xs => by
        induction xs with
        | nil => intro us as _ ra; cases ra; rfl
        | cons x xs ih =>
          intro us as hf ra
          rw [List.all_cons, Bool.and_eq_true] at hf
          cases ra with
          | cons r1 r2 => rw [reads_ft n hf.1 r1, ih _ _ hf.2 r2]; rfl
      exact key xs _ _ hf ra
  | 0, .tuple xs, _, _, hf, r => by cases hf
  | n, .list _, _, _, hf, _ => by cases n <;> cases hf
  | n, .dict _, _, _, hf, _ => by cases n <;> cases hf
theorem readsKV_of {h : Heap} : ∀ {es : List DictEntry} {kvs : List (Str × Int)}, Paired (fun (e : DictEntry) (p : Str × Int) => (∃ t, e.key = .str p.1 t) ∧ ∃ t, e.val = .int p.2 t) es kvs →
    ∃ as, ReadsAll h (es.map (·.key)) (kvs.map fun p => PyData.str p.1) as ∧ ∃ bs, ReadsAll h (es.map (·.val)) (kvs.map fun p => PyData.int p.2) bs
  | [], [], .nil => ⟨_, .nil, _, .nil⟩
  | e :: es, p :: kvs, .cons h t => by
    obtain ⟨⟨t1, h1⟩, t2, h2⟩ := h
    obtain ⟨as, k1, bs, k2⟩ := readsKV_of t
    refine ⟨[] ++ as, ?_, [] ++ bs, ?_⟩
    · rw [List.map_cons, List.map_cons, h1]; exact .cons (.str _ _) k1
    · rw [List.map_cons, List.map_cons, h2]; exact .cons (.int _ _) k2
theorem readsAll_of {P : V → PyData → Prop} (hp : ∀ v d u, P v d → RelV v u → ∃ as, Reads s.heap u d as) : ∀ {xs : List V} {ds : List PyData} {us : List Value}, xs.length = ds.length → (∀ (i : Nat) v d, xs[i]? = some v → ds[i]? = some d → P v d) → Vals xs us → ∃ as, ReadsAll s.heap us ds as
  | [], [], _, _, _, .nil => ⟨_, .nil⟩
  | v :: vs, d :: ds, _, hl, h, .cons r rs => by
    obtain ⟨as, q⟩ := hp v d _ (h 0 v d rfl rfl) r
    obtain ⟨bs, qs⟩ := readsAll_of hp (xs := vs) (ds := ds) (by simpa using hl) (fun i v d a b => h (i + 1) v d (by simpa using a) (by simpa using b)) rs
    exact ⟨_, .cons q qs⟩
  | [], _ :: _, _, hl, _, _ => by simp at hl
  | _ :: _, [], _, hl, _, _ => by simp at hl
theorem Dq.reads (I : Inv X pins σ H s) {v : V} {d : PyData} (h : Dq X.K H v d) : noOb d = true → ∀ {u : Value}, RelV v u → ∃ as, Reads s.heap u d as := by
  induction h with
  | non => intro _ u r; cases r; exact ⟨_, .none⟩
  | bl b => intro _ u r; cases r; exact ⟨_, .bool b⟩
  | int i => intro _ u r; obtain ⟨t, rfl⟩ := r; exact ⟨_, .int i t⟩
  | str x _ => intro _ u r; obtain ⟨t, rfl⟩ := r; exact ⟨_, .str x t⟩
  | lst hs hl hz _ ih =>
    intro no u r
    cases r
    obtain ⟨_, its, n, rv, ho⟩ := rdL I hs
    obtain ⟨as, q⟩ := readsAll_of (P := fun v d => ∀ {u : Value}, RelV v u → ∃ as, Reads s.heap u d as) (fun v d u h r => h r) hl (fun i v d a b => ih i v d a b (noObA_at no b)) rv
    exact ⟨_, Reads.list ho rfl rfl q⟩
  | tup hs hl hz _ ih =>
    intro no u r
    cases r
    obtain ⟨its, rv, ⟨o, ho, hc, n, hd⟩, _⟩ := I.tuple hs.sq
    obtain ⟨as, q⟩ := readsAll_of (P := fun v d => ∀ {u : Value}, RelV v u → ∃ as, Reads s.heap u d as) (fun v d u h r => h r) hl (fun i v d a b => ih i v d a b (noObA_at no b)) rv
    exact ⟨_, Reads.tuple ho hc hd q⟩
  | ob => intro no; cases no
  | @dv a k v d hs hf _ ih =>
    intro _ u r
    cases r
    obtain ⟨o, es, ep, ho, hx, hd, ⟨e, t, e1, e2, e3⟩, _⟩ := rdD1 I hs
    obtain ⟨as, q⟩ := ih (ft_noOb 3 hf) e3
    exact ⟨_, Reads.dict (as := [] ++ []) (bs := as ++ []) ho hx.1 hd (by rw [e1, List.map_cons, e2]; exact .cons (.str _ _) .nil) (by rw [e1]; exact .cons q .nil)⟩
  | @dic a kvs hs hz _ =>
    intro _ u r
    cases r
    obtain ⟨o, es, ep, ho, hx, hd, hp, _⟩ := rdD I hs
    obtain ⟨as, h1, bs, h2⟩ := readsKV_of (h := s.heap) hp
    exact ⟨_, Reads.dict (as := as) (bs := bs) ho hx.1 hd (by rw [List.map_map]; exact h1) (by rw [List.map_map]; exact h2)⟩
theorem DqA.reads (I : Inv X pins σ H s) {xs : List V} {ds : List PyData} (h : DqA X.K H xs ds) (no : noObA ds = true) {us : List Value} (r : Vals xs us) : ∃ as, ReadsAll s.heap us ds as :=
  readsAll_of (P := fun v d => Dq X.K H v d ∧ noOb d = true) (fun v d u h r => h.1.reads I h.2 r) h.1 (fun i v d a b => ⟨h.2 i v d a b, noObA_at no b⟩) r
end
def scV : PyData → Option V
  | .none => some .non
  | .bool b => some (.bl b)
  | .int i => some (.int i)
  | _ => none
theorem scV_dq {K : PySem.W.Frag} {G : Hp} {d : PyData} {v : V} (h : scV d = some v) : Dq K G v d := by
  cases d with
  | none => cases h; exact .non
  | bool b => cases h; exact .bl b
  | int i => cases h; exact .int i
  | _ => cases h
def r2S (K : PySem.W.Frag) (g : PyData → PyData → Option PyData) : R2 := fun x y H Q => ∃ dx dy d v, Dq K H x dx ∧ Dq K H y dy ∧ g dx dy = some d ∧ scV d = some v ∧ Q v H
theorem d2S {K : PySem.W.Frag} {g : PyData → PyData → Option PyData} (hg : ∀ a b d, g a b = some d → ∃ v, scV d = some v) : D2 K (r2S K g) .s g := fun st hx hy e k => by
  obtain ⟨v, hv⟩ := hg _ _ _ e
  exact ⟨_, _, _, v, hx.mono st.sub, hy.mono st.sub, e, hv, ans_s st (scV_dq hv) k⟩
def dep (a b : PyData) : Bool := decide (min a.depth b.depth ≤ 60)
def nilR (a b : PyData) : Bool := match a, b with
  | .tuple _, .tuple [] => true
  | .list _, .list [] => true
  | _, _ => false
def pln (a b : PyData) : Bool := (a.plain && b.plain) || nilR a b
def gEq (a b : PyData) : Option PyData := if (dep a b && pln a b) = true then some (.bool (PyData.eqv a b)) else none
def gNe (a b : PyData) : Option PyData := if (dep a b && pln a b) = true then some (.bool (!PyData.eqv a b)) else none
def cmpOk (a b : PyData) : Bool := PySem.W.alike a b && (match a with | .none => false | _ => true) && dep a b && (noOb a && noOb b)
def gLt : PyData → PyData → Option PyData
  | .int i, .int j => some (.bool (decide (i < j)))
  | a, b => if cmpOk a b = true then some (.bool (PySem.W.dataLt a b)) else none
def gGt : PyData → PyData → Option PyData
  | .int i, .int j => some (.bool (decide (j < i)))
  | a, b => if cmpOk a b = true then some (.bool (PySem.W.dataLt b a)) else none
def gLe : PyData → PyData → Option PyData
  | .int i, .int j => some (.bool (decide (i ≤ j)))
  | a, b => if cmpOk a b = true then some (.bool (!PySem.W.dataLt b a)) else none
def gGe : PyData → PyData → Option PyData
  | .int i, .int j => some (.bool (decide (j ≤ i)))
  | a, b => if cmpOk a b = true then some (.bool (!PySem.W.dataLt a b)) else none
def isTD : PyData → PyData → Option Bool
  | .none, .none => some true
  | _, .none => some false
  | .bool a, .bool b => some (a == b)
  | _, .bool _ => some false
  | _, _ => none
def gIs (a b : PyData) : Option PyData := (isTD a b).map .bool
def gIsNot (a b : PyData) : Option PyData := (isTD a b).map fun k => .bool (!k)
theorem hu60 {A : Around} {k n : Nat} (hr : RoomU n A) (h : k ≤ 60) : A.units + 1 + k < cLine := by have := hr.un; omega
theorem ite_some {α : Type} {c : Prop} [Decidable c] {a b : α} (h : (if c then some a else none) = some b) : c ∧ a = b := by
  split at h
  · rename_i hc; exact ⟨hc, Option.some.inj h⟩
  · cases h
theorem RelV.sc {d : PyData} {v : V} (h : scV d = some v) : True := trivial
theorem boolE {X : Cx} {pins : List (Addr × Obj)} {σ : St} {H : Hp} {s : Shared} {Q : VK} (I : Inv X pins σ H s) {b : Bool} {v : V} (h : scV (.bool b) = some v) (q : Q v H) : EP X pins σ Q (.bool b) s := by
  cases h
  exact ⟨.bl b, H, I, rfl, q⟩
theorem dep_ok {a b : PyData} (h : (dep a b && pln a b) = true) : min a.depth b.depth ≤ 60 ∧ ((a.plain = true ∧ b.plain = true) ∨ nilR a b = true) := by
  unfold dep pln at h
  simp only [Bool.and_eq_true, Bool.or_eq_true, decide_eq_true_eq] at h
  exact h
theorem rcN_nil {X : Cx} {pins : List (Addr × Obj)} {σ : St} {H : Hp} {s : Shared} (I : Inv X pins σ H s) {dx dy : PyData} {A : Around} {x y : V} {a b : Value} (hx : Dq X.K H x dx) (hy : Dq X.K H y dy) (rx : RelV x a) (ry : RelV y b) (hu : A.units + min dx.depth dy.depth < cLine) (h : nilR dx dy = true) :
    SeqAt.RcAt A s a b (PyData.eqv dx dy) ∧ SeqAt.RcNeAt A s a b (!PyData.eqv dx dy) := by
  unfold nilR at h
  split at h
  · rename_i xs
    generalize ez : PyData.tuple [] = z at hy
    cases hx with
    | tup hs hl hz _ =>
      cases rx
      obtain ⟨its, rv, ⟨o, ho, hc, n, hd⟩, _⟩ := I.tuple hs.sq
      cases hy with
      | tup ks kl kz _ =>
        cases ez
        cases ry
        obtain ⟨jts, rw, ⟨o2, ho2, hc2, n2, hd2⟩, _⟩ := I.tuple ks.sq
        have e1 : its.toArray.size = xs.length := by rw [List.size_toArray, ← rv.length, hl]
        have e2 : jts.toArray.size = 0 := by rw [List.size_toArray, ← rw.length, kl]; rfl
        have he : ∀ j (j1 : j < its.toArray.size) (j2 : j < jts.toArray.size), SeqAt.EqAt A.in1 s its.toArray[j] jts.toArray[j] (SeqAt.pairEq xs [] j) := fun j _ j2 => by rw [e2] at j2; cases j2
        show SeqAt.RcAt A s (.ref _) (.ref _) (PyData.eqvAll xs []) ∧ SeqAt.RcNeAt A s (.ref _) (.ref _) (!PyData.eqvAll xs [])
        have e3 : ([] : List PyData).length = jts.toArray.size := e2.symm
        rw [← SeqAt.eqvAll_eq xs [], e3, ← e1]
        exact ⟨SeqAt.RcAt.tuples ⟨_, ho, hc, _, hd⟩ ⟨_, ho2, hc2, _, hd2⟩ (SeqAt.room_here hu) he, SeqAt.RcNeAt.tuples ⟨_, ho, hc, _, hd⟩ ⟨_, ho2, hc2, _, hd2⟩ (SeqAt.room_here hu) he⟩
      | _ => cases ez
  · rename_i xs
    generalize ez : PyData.list [] = z at hy
    cases hx with
    | lst hs hl hz _ =>
      cases rx
      obtain ⟨_, its, n, rv, ho⟩ := rdL I hs
      cases hy with
      | lst ks kl kz _ =>
        cases ez
        cases ry
        obtain ⟨_, jts, n2, rw, ho2⟩ := rdL I ks
        have e1 : its.toArray.size = xs.length := by rw [List.size_toArray, ← rv.length, hl]
        have e2 : jts.toArray.size = 0 := by rw [List.size_toArray, ← rw.length, kl]; rfl
        show SeqAt.RcAt A s (.ref _) (.ref _) (PyData.eqvAll xs []) ∧ SeqAt.RcNeAt A s (.ref _) (.ref _) (!PyData.eqvAll xs [])
        cases xs with
        | nil =>
          have he : ∀ j (j1 : j < its.toArray.size) (j2 : j < jts.toArray.size), SeqAt.EqAt A.in1 s its.toArray[j] jts.toArray[j] (SeqAt.pairEq [] [] j) := fun j _ j2 => by rw [e2] at j2; cases j2
          have z : its.toArray.size = jts.toArray.size := by rw [e1, e2]; rfl
          rw [← SeqAt.eqvAll_same_length (show ([] : List PyData).length = ([] : List PyData).length from rfl)]
          have e3 : ([] : List PyData).length = its.toArray.size := e1.symm
          rw [e3]
          exact ⟨SeqAt.RcAt.lists ⟨_, ho, rfl, _, rfl⟩ ⟨_, ho2, rfl, _, rfl⟩ z (SeqAt.room_here hu) he, SeqAt.RcNeAt.lists ⟨_, ho, rfl, _, rfl⟩ ⟨_, ho2, rfl, _, rfl⟩ z (SeqAt.room_here hu) he⟩
        | cons x xs =>
          have z : its.toArray.size ≠ jts.toArray.size := by rw [e1, e2, List.length_cons]; omega
          rw [SeqAt.eqvAll_other_length (by simp : (x :: xs).length ≠ ([] : List PyData).length)]
          exact ⟨SeqAt.RcAt.lists_lengths ⟨_, ho, rfl, _, rfl⟩ ⟨_, ho2, rfl, _, rfl⟩ (by simpa using z) (SeqAt.room_here hu), SeqAt.RcNeAt.lists_lengths ⟨_, ho, rfl, _, rfl⟩ ⟨_, ho2, rfl, _, rfl⟩ (by simpa using z) (SeqAt.room_here hu)⟩
      | _ => cases ez
  · cases h
theorem cmp_ok {a b : PyData} (h : cmpOk a b = true) : PySem.W.alike a b = true ∧ a ≠ .none ∧ min a.depth b.depth ≤ 60 ∧ noOb a = true ∧ noOb b = true := by
  unfold cmpOk at h
  simp only [Bool.and_eq_true] at h
  refine ⟨h.1.1.1, fun e => ?_, of_decide_eq_true h.1.2, h.2.1, h.2.2⟩
  subst e
  have := h.1.1.2
  simp at this
section
variable {ι : Type} {Xf : ι → Cx} {P : Program} {w : World} {K : PySem.W.Frag} {mg : Str → Option Value} {base : Heap} {n : Nat} [F : Fam Xf P w K mg base n]
include F
theorem op_eqG' (i : ι) : OpR (Xf i) (compareOp .Eq) (r2S K gEq) := by
  intro pins s σ H x y v u Q I rx ry h
  obtain ⟨dx, dy, d, z, hx, hy, e, hz, q⟩ := h
  rw [← F.kk i] at hx hy
  obtain ⟨hd, rfl⟩ := ite_some e
  have hu : (Xf i).A.units + min dx.depth dy.depth < cLine := by have := hu60 (F.room i) (dep_ok hd).1; omega
  rcases (dep_ok hd).2 with hp | hn
  · obtain ⟨as, r1⟩ := hx.reads I (plain_noOb _ hp.1) rx
    obtain ⟨bs, r2⟩ := hy.reads I (plain_noOb _ hp.2) ry
    exact PySem.SeqAt.eq_plain r1 r2 hp.1 hp.2 hu (boolE I hz q)
  · exact (rcN_nil I hx hy rx ry hu hn).1 _ _ _ _ (boolE I hz q)
theorem op_neG' (i : ι) : OpR (Xf i) (compareOp .NotEq) (r2S K gNe) := by
  intro pins s σ H x y v u Q I rx ry h
  obtain ⟨dx, dy, d, z, hx, hy, e, hz, q⟩ := h
  rw [← F.kk i] at hx hy
  obtain ⟨hd, rfl⟩ := ite_some e
  have hu : (Xf i).A.units + min dx.depth dy.depth < cLine := by have := hu60 (F.room i) (dep_ok hd).1; omega
  rcases (dep_ok hd).2 with hp | hn
  · obtain ⟨as, r1⟩ := hx.reads I (plain_noOb _ hp.1) rx
    obtain ⟨bs, r2⟩ := hy.reads I (plain_noOb _ hp.2) ry
    exact PySem.SeqAt.ne_plain r1 r2 hp.1 hp.2 hu (boolE I hz q)
  · exact (rcN_nil I hx hy rx ry hu hn).2 _ _ _ _ (boolE I hz q)
theorem op_ltG' (i : ι) : OpR (Xf i) (compareOp .Lt) (r2S K gLt) := by
  intro pins s σ H x y v u Q I rx ry h
  obtain ⟨dx, dy, d, z, hx, hy, e, hz, q⟩ := h
  rw [← F.kk i] at hx hy
  unfold gLt at e
  split at e
  · cases e
    obtain ⟨as, r1⟩ := hx.reads I rfl rx
    obtain ⟨bs, r2⟩ := hy.reads I rfl ry
    exact PySem.W.lt_data r1 r2 rfl (fun z => nomatch z) (by have := hu60 (F.room i) (k := 0) (by omega); simp only [PyData.depth]; omega) (by rw [PySem.W.dataLt_int]; exact boolE I hz q)
  · obtain ⟨hd, rfl⟩ := ite_some e
    obtain ⟨h1, h2, h3, h4, h5⟩ := cmp_ok hd
    obtain ⟨as, r1⟩ := hx.reads I h4 rx
    obtain ⟨bs, r2⟩ := hy.reads I h5 ry
    exact PySem.W.lt_data r1 r2 h1 h2 (by have := hu60 (F.room i) h3; omega) (boolE I hz q)
theorem op_gtG' (i : ι) : OpR (Xf i) (compareOp .Gt) (r2S K gGt) := by
  intro pins s σ H x y v u Q I rx ry h
  obtain ⟨dx, dy, d, z, hx, hy, e, hz, q⟩ := h
  rw [← F.kk i] at hx hy
  unfold gGt at e
  split at e
  · cases e
    obtain ⟨as, r1⟩ := hx.reads I rfl rx
    obtain ⟨bs, r2⟩ := hy.reads I rfl ry
    exact PySem.W.gt_data r1 r2 rfl (fun z => nomatch z) (by have := hu60 (F.room i) (k := 0) (by omega); simp only [PyData.depth]; omega) (by rw [PySem.W.dataLt_int]; exact boolE I hz q)
  · obtain ⟨hd, rfl⟩ := ite_some e
    obtain ⟨h1, h2, h3, h4, h5⟩ := cmp_ok hd
    obtain ⟨as, r1⟩ := hx.reads I h4 rx
    obtain ⟨bs, r2⟩ := hy.reads I h5 ry
    exact PySem.W.gt_data r1 r2 h1 h2 (by have := hu60 (F.room i) h3; omega) (boolE I hz q)
theorem op_geG' (i : ι) : OpR (Xf i) (compareOp .GtE) (r2S K gGe) := by
  intro pins s σ H x y v u Q I rx ry h
  obtain ⟨dx, dy, d, z, hx, hy, e, hz, q⟩ := h
  rw [← F.kk i] at hx hy
  unfold gGe at e
  split at e
  · cases e
    obtain ⟨as, r1⟩ := hx.reads I rfl rx
    obtain ⟨bs, r2⟩ := hy.reads I rfl ry
    exact PySem.W.ge_data r1 r2 rfl (fun z => nomatch z) (by have := hu60 (F.room i) (k := 0) (by omega); simp only [PyData.depth]; omega) (by rw [PySem.W.dataLt_int, PySem.W.not_lt_int]; exact boolE I hz q)
  · obtain ⟨hd, rfl⟩ := ite_some e
    obtain ⟨h1, h2, h3, h4, h5⟩ := cmp_ok hd
    obtain ⟨as, r1⟩ := hx.reads I h4 rx
    obtain ⟨bs, r2⟩ := hy.reads I h5 ry
    exact PySem.W.ge_data r1 r2 h1 h2 (by have := hu60 (F.room i) h3; omega) (boolE I hz q)
theorem opEq : Op2 Xf K (compareOp .Eq) .s gEq := ⟨_, op_eqG', d2S fun a b d e => by obtain ⟨_, rfl⟩ := ite_some e; exact ⟨_, rfl⟩⟩
theorem opNe : Op2 Xf K (compareOp .NotEq) .s gNe := ⟨_, op_neG', d2S fun a b d e => by obtain ⟨_, rfl⟩ := ite_some e; exact ⟨_, rfl⟩⟩
theorem opLt : Op2 Xf K (compareOp .Lt) .s gLt := ⟨_, op_ltG', d2S fun a b d e => by
  unfold gLt at e; split at e
  · cases e; exact ⟨_, rfl⟩
  · obtain ⟨_, rfl⟩ := ite_some e; exact ⟨_, rfl⟩⟩
theorem opGt : Op2 Xf K (compareOp .Gt) .s gGt := ⟨_, op_gtG', d2S fun a b d e => by
  unfold gGt at e; split at e
  · cases e; exact ⟨_, rfl⟩
  · obtain ⟨_, rfl⟩ := ite_some e; exact ⟨_, rfl⟩⟩
theorem opGe : Op2 Xf K (compareOp .GtE) .s gGe := ⟨_, op_geG', d2S fun a b d e => by
  unfold gGe at e; split at e
  · cases e; exact ⟨_, rfl⟩
  · obtain ⟨_, rfl⟩ := ite_some e; exact ⟨_, rfl⟩⟩
end
end DL
namespace DL
open PySem L2 PySem.Spec
def rCatR : R2 := fun x y H Q => ∃ l b xs zs, x = .ref l ∧ y = .ref b ∧ Rd H l (.lst xs) ∧ Rd H b (.lst zs) ∧ xs.length + zs.length ≤ sizeLine ∧ ∀ p, H p = none → Q (.ref p) (upd H p (.lst (xs ++ zs)))
theorem op_catR {X : Cx} : OpR X (binaryOp .Add) rCatR := by
  intro pins s σ H x y v u Q I rx ry h
  obtain ⟨l, b, xs, zs, rfl, rfl, hH, hB, hz, q⟩ := h
  cases rx
  cases ry
  obtain ⟨z, its, n, r, e⟩ := rdL I hH
  obtain ⟨z2, its2, n2, r2, e2⟩ := rdL I hB
  have hl := r.length
  have hl2 := r2.length
  refine PySem.P.add_list e e2 ?_ (by rw [List.size_toArray, List.size_toArray]; omega)
  have ea : its.toArray ++ its2.toArray = (its ++ its2).toArray := by simp
  rw [ea]
  exact ⟨.ref _, _, I.lnew (t' := s.toks) (r.append r2) (by rw [List.length_append]; omega), rfl, q _ I.fresh⟩
def rRepR : R2 := fun x y H Q => ∃ l k xs, x = .ref l ∧ y = .int k ∧ Rd H l (.lst xs) ∧ -(2 ^ 63) ≤ k ∧ k < 2 ^ 63 ∧ xs.length * k.toNat ≤ sizeLine ∧
  ∀ p, H p = none → Q (.ref p) (upd H p (.lst (List.replicate k.toNat xs).flatten))
theorem op_repR {X : Cx} : OpR X (binaryOp .Mult) rRepR := by
  intro pins s σ H x y v u Q I rx ry h
  obtain ⟨l, k, xs, rfl, rfl, hH, h1, h2, hz, q⟩ := h
  cases rx
  obtain ⟨t, rfl⟩ := ry
  obtain ⟨z, its, n, r, e⟩ := rdL I hH
  have hl := r.length
  have hlen : its.toArray.size * k.toNat ≤ sizeLine := by rw [List.size_toArray, ← hl]; exact hz
  have hcap : ¬ its.toArray.size * k.toNat > (2 ^ 63 - 1) / 8 := by
    have : (sizeLine : Nat) ≤ (2 ^ 63 - 1) / 8 := by decide
    omega
  have hfit : ¬ (!Builtin.List.listFitsIndex k) = true := by
    rw [fitsIndex_both h1 h2]
    exact Bool.false_ne_true
  have hlong : ¬ Builtin.List.listTooLong (its.toArray.size * k.toNat) = true := by
    rw [notLongL hlen]
    exact Bool.false_ne_true
  have hnew : List.foldl (fun x1 x2 => x1 ++ x2) #[] (List.replicate (if its.toArray.isEmpty = true then 0 else k.toNat) its.toArray) = (List.replicate k.toNat its).flatten.toArray := by
    have f0 : ∀ m : Nat, List.foldl (fun x1 x2 => x1 ++ x2) #[] (List.replicate m its.toArray) = (List.replicate m its).flatten.toArray := fun m => by
      have := foldl_rep its m []
      rw [List.nil_append] at this
      exact this
    rw [f0]
    cases its with
    | nil => simp
    | cons a r' => simp
  refine wpAny_binaryOp_repeat_ref (T := "list") (U := "int") (by decide) ⟨_, e, rfl⟩ (fun s' => typeIs_int s' k t) noFill_list_mul F.fills_int_mul F.slot_int_rmul repeat_list F.slot_int_index.lookup
    (call_meets F.slot_int_rmul (typeIs_int s k t) F.entry_int_rmul (F.args_int_rmul_2 _ _) (int___rmul___int_list k t l its.toArray n)
      ⟨e, rfl, ⟨_, e, rfl⟩, call_meets F.slot_list_mul ⟨_, e, rfl⟩ F.entry_list_mul (F.args_list_mul_2 _ _) (AutoListH.list___mul___list_int_3 l its.toArray n k t hfit hcap hlong) ⟨e, ?_⟩⟩)
  rw [hnew]
  exact ⟨.ref _, _, I.lnew (t' := s.toks) (r.rep k.toNat) (by rw [PyProof.Rows.lm_len_rep_flat, Nat.mul_comm]; exact hz), rfl, q _ I.fresh⟩
def bI (b : Bool) : Int := if b = true then 1 else 0
theorem gv_addB (b : Bool) (j : Int) (t : Tok) : Gives (Builtin.«int.__add__» ⟨[.bool b, .int j t], []⟩) (.int (bI b + j)) :=
  .of_wp fun M A E s Q h => by
    obtain ⟨hp, g, d, tk, os⟩ := s
    wp_walk
    exact ⟨_, rfl, h⟩
def rBI (g : Int → Int → Int) : R2 := fun x y H Q => ∃ b j, x = .bl b ∧ y = .int j ∧ Q (.int (g (bI b) j)) H
theorem op_addBI {X : Cx} : OpR X (binaryOp .Add) (rBI fun i j => i + j) := by
  intro pins s σ H x y v u Q I rx ry h
  obtain ⟨b, j, rfl, rfl, q⟩ := h
  cases rx
  obtain ⟨t, rfl⟩ := ry
  exact binaryOp_left_gives (op := .Add) (T := "bool") (U := "int") (by decide) rfl (fun s' => typeIs_int s' j t) F.fills_bool_add F.fills_int_add F.sub_int_bool F.slot_bool_add F.slot_int_radd F.entry_int_add (F.args_int_add_2 _ _) (gv_addB b j t) trivial
    ⟨.int (bI b + j), H, I.tok _, ⟨_, rfl⟩, q⟩
def gAdd : PyData → PyData → Option PyData
  | .int i, .int j => some (.int (i + j))
  | .bool b, .int j => some (.int (bI b + j))
  | .str i, .str j => if i.length + j.length ≤ sizeLine then some (.str (i ++ j)) else none
  | .tuple a, .tuple b => if a.length + b.length ≤ sizeLine then some (.tuple (a ++ b)) else none
  | .list a, .list b => if a.length + b.length ≤ sizeLine then some (.list (a ++ b)) else none
  | _, _ => none
def gAddL : PyData → PyData → Option PyData
  | .list a, .list b => if a.length + b.length ≤ sizeLine then some (.list (a ++ b)) else none
  | _, _ => none
def gSub : PyData → PyData → Option PyData
  | .int i, .int j => some (.int (i - j))
  | .bool b, .int j => some (.int (bI b - j))
  | _, _ => none
def mulOk (i j : Int) : Bool := decide (i.natAbs < 2 ^ 64) || decide (j.natAbs < 2 ^ 64)
def gMul : PyData → PyData → Option PyData
  | .int i, .int j => if mulOk i j = true then some (.int (i * j)) else none
  | .list xs, .int k => if -(2 ^ 63) ≤ k ∧ k < 2 ^ 63 ∧ xs.length * k.toNat ≤ sizeLine then some (.list (List.replicate k.toNat xs).flatten) else none
  | .tuple xs, .int k => if -1000 ≤ k ∧ k ≤ 1000 ∧ xs.length ≤ 1000 then some (.tuple (List.replicate k.toNat xs).flatten) else none
  | _, _ => none
def gMulL : PyData → PyData → Option PyData
  | .list xs, .int k => if -(2 ^ 63) ≤ k ∧ k < 2 ^ 63 ∧ xs.length * k.toNat ≤ sizeLine then some (.list (List.replicate k.toNat xs).flatten) else none
  | _, _ => none
def gFdiv : PyData → PyData → Option PyData
  | .int i, .int j => if 0 < j ∧ j.natAbs.log2 < 9000 then some (.int (i / j)) else none
  | _, _ => none
def gMod : PyData → PyData → Option PyData
  | .int i, .int j => if 0 < j then some (.int (i % j)) else none
  | _, _ => none
def gPow : PyData → PyData → Option PyData
  | .int i, .int j => if 0 ≤ j ∧ j ≤ 1000000 ∧ i.natAbs < 2 ^ 64 then some (.int (i ^ j.toNat)) else none
  | _, _ => none
def gNeg : PyData → Option PyData
  | .int i => some (.int (-i))
  | _ => none
section
variable {K : PySem.W.Frag} {G H : Hp} {m : List Ty} {σ : St} {e : En} {A : List Addr} {d : PyData} {Q : VK}
theorem dq_lst {G : Hp} {x : V} {ds : List PyData} (h : Dq K G x (.list ds)) : ∃ a xs, x = .ref a ∧ Rd G a (.lst xs) ∧ xs.length ≤ sizeLine ∧ DqA K G xs ds := by
  cases h with
  | lst h1 h2 h3 h4 => exact ⟨_, _, rfl, h1, h3, h2, h4⟩
theorem dq_tup {G : Hp} {x : V} {ds : List PyData} (h : Dq K G x (.tuple ds)) : ∃ a xs, x = .ref a ∧ SqT K G a xs ∧ xs.length ≤ sizeLine ∧ DqA K G xs ds := by
  cases h with
  | tup h1 h2 h3 h4 => exact ⟨_, _, rfl, h1.sq, h3, h2, h4⟩
theorem dq_int {G : Hp} {x : V} {i : Int} (h : Dq K G x (.int i)) : x = .int i := by cases h; rfl
theorem dq_bool {G : Hp} {x : V} {i : Bool} (h : Dq K G x (.bool i)) : x = .bl i := by cases h; rfl
theorem dq_str {G : Hp} {x : V} {i : Str} (h : Dq K G x (.str i)) : x = .str i ∧ i.length ≤ sizeLine := by cases h; exact ⟨rfl, by assumption⟩
theorem DqA.flat {G : Hp} {xs : List V} {ds : List PyData} (h : DqA K G xs ds) : ∀ k : Nat, DqA K G (List.replicate k xs).flatten (List.replicate k ds).flatten
  | 0 => DqA.nil
  | k + 1 => by rw [List.replicate_succ, List.replicate_succ, List.flatten_cons, List.flatten_cons]; exact h.append (DqA.flat h k)
theorem kfrz {ty : Ty} (hn : nou ty = true) (k : ∀ (G' H' : Hp) (v : V) (Av A' : List Addr), Step A G H (Av ++ A') G' H' → Stt K m G' H' σ e A' → Own K G' H' .s d (some v) Av → (Av ++ A').Nodup → Q v H') :
    ∀ (G' H' : Hp) (v : V) (Av A' : List Addr), Step A G H (Av ++ A') G' H' → Stt K m G' H' σ e A' → Own K G' H' ty d (some v) Av → (Av ++ A').Nodup → Q v H' := fun G1 H1 v1 A1 B1 s1 st1 o1 nd1 => by
  obtain ⟨s2, st2, sg, hl⟩ := frz st1 (own_at o1) nd1
  obtain ⟨x, hx, q⟩ := own_frz o1 sg hl hn
  cases hx
  have s0 : Step A G H ([] ++ B1) (lay G1 H1 A1) H1 := s1.seq0 s2
  exact k _ _ v1 [] B1 s0 st2 (.s q) st2.nd
theorem d2_catL : D2 K rCatR (.l .s) gAddL := fun {m G H σ e A x y dx dy d Q} st hx hy ee k => by
  unfold gAddL at ee
  split at ee
  · obtain ⟨hz, rfl⟩ := ite_some ee
    obtain ⟨a, xs, rfl, r1, z1, q1⟩ := dq_lst hx
    obtain ⟨b, ys, rfl, r2, z2, q2⟩ := dq_lst hy
    have l1 := q1.1
    have l2 := q2.1
    exact ⟨a, b, xs, ys, rfl, rfl, same_rd st.sub r1, same_rd st.sub r2, by omega, ans_lst st (q1.append q2) (by rw [List.length_append]; omega) k⟩
  · cases ee
theorem d2_repL : D2 K rRepR (.l .s) gMulL := fun {m G H σ e A x y dx dy d Q} st hx hy ee k => by
  unfold gMulL at ee
  split at ee
  · obtain ⟨hz, rfl⟩ := ite_some ee
    obtain ⟨a, xs, rfl, r1, z1, q1⟩ := dq_lst hx
    obtain rfl := dq_int hy
    have l1 := q1.1
    exact ⟨a, _, xs, rfl, rfl, same_rd st.sub r1, hz.1, hz.2.1, by rw [l1]; exact hz.2.2, ans_lst st (q1.flat _) (by rw [PyProof.Rows.lm_len_rep_flat, l1, Nat.mul_comm]; exact hz.2.2) k⟩
  · cases ee
end
section
variable {ι : Type} {Xf : ι → Cx} {P : Program} {w : World} {K : PySem.W.Frag} {mg : Str → Option Value} {base : Heap} {n : Nat} [F : Fam Xf P w K mg base n]
include F
theorem kkR {r : PySem.W.Frag → R2} {f : Value → Value → Sem Value} (h : ∀ X : Cx, OpR X f (r X.K)) (i : ι) : OpR (Xf i) f (r K) := by
  have := h (Xf i)
  rw [F.kk i] at this
  exact this
theorem opAdd : Op2 Xf K (binaryOp .Add) .s gAdd := by
  refine ⟨_, fun i => OpR.or op_addBI (OpR.or (op_add) (OpR.or op_add_str (OpR.or (kkR (fun X => op_catN) i) op_catR))), fun {m G H σ e A x y dx dy d Q} st hx hy ee k => ?_⟩
  unfold gAdd at ee
  split at ee
  · cases ee
    obtain rfl := dq_int hx
    obtain rfl := dq_int hy
    exact .inr (.inl ⟨_, _, rfl, rfl, ans_s st (.int _) k⟩)
  · cases ee
    obtain rfl := dq_bool hx
    obtain rfl := dq_int hy
    exact .inl ⟨_, _, rfl, rfl, ans_s st (.int _) k⟩
  · obtain ⟨hz, rfl⟩ := ite_some ee
    obtain ⟨rfl, z1⟩ := dq_str hx
    obtain ⟨rfl, z2⟩ := dq_str hy
    refine .inr (.inr (.inl ⟨_, _, rfl, rfl, hz, ans_s st (.str _ ?_) k⟩))
    rename_i i j
    show (i.cps ++ j.cps).size ≤ _
    rw [Array.size_append]; exact hz
  · obtain ⟨hz, rfl⟩ := ite_some ee
    obtain ⟨a, xs, rfl, r1, z1, q1⟩ := dq_tup hx
    obtain ⟨b, ys, rfl, r2, z2, q2⟩ := dq_tup hy
    have l1 := q1.1
    have l2 := q2.1
    refine .inr (.inr (.inr (.inl ⟨a, b, xs, ys, rfl, rfl, same_seqT st.sub r1, same_seqT st.sub r2, by omega, fun h0 => ?_, fun h0 h1 => ?_, fun _ _ => ans_tup st (q1.append q2) (by rw [List.length_append]; omega) k⟩)))
    · subst h0
      have : (_ : List PyData) = [] := List.length_eq_zero_iff.mp l1.symm
      subst this
      exact ans_s st hy k
    · subst h1
      have : (_ : List PyData) = [] := List.length_eq_zero_iff.mp l2.symm
      subst this
      rw [List.append_nil] at k
      exact ans_s st hx k
  · exact .inr (.inr (.inr (.inr (d2_catL st hx hy ee (kfrz rfl k)))))
  · cases ee
theorem opAddL : Op2 Xf K (binaryOp .Add) (.l .s) gAddL := ⟨_, fun i => op_catR, d2_catL⟩
omit F in
theorem mul_same (l : Addr) (its : Array Value) (n : Nat) (dc : Option Addr) (sl : Array (Option Value)) (x : Int) (u : Tok) (k0 : (decide (x < -(2 ^ 63)) || decide (x ≥ 2 ^ 63)) = false) (k1 : (its.isEmpty || x == 1) = true) :
    Meets (Builtin.«tuple.__mul__» ⟨[.ref l, .int x u], []⟩) (fun _ R s => s.heap.get? l = some { cls := .type "tuple", dict := dc, data := .seq its n, slots := sl } ∧ R (.ok (.ret (Value.ref l))) s) :=
  .of_wp fun prog w A R s h => by
    obtain ⟨hp, gg, dr, tk, os⟩ := s
    obtain ⟨at1, h⟩ := h
    have ix := AutoSeq1.idx_int
    wp_walk using wpAny_loadPart' at1
    repeat (first
      | (refine wpAny_ite_false (decide_eq_false (by rw [k0]; exact Bool.false_ne_true)) ?_; wp_walk using wpAny_loadPart' at1)
      | (refine wpAny_ite_true (decide_eq_true k1) ?_; wp_walk using wpAny_loadPart' at1))
    exact ⟨_, rfl, h⟩
omit F in
theorem mul_none (l : Addr) (its : Array Value) (n : Nat) (dc : Option Addr) (sl : Array (Option Value)) (x : Int) (u : Tok) (k0 : (decide (x < -(2 ^ 63)) || decide (x ≥ 2 ^ 63)) = false) (k1 : (its.isEmpty || x == 1) = false) (k2 : (decide (x ≤ 0) || its.isEmpty) = true) :
    Meets (Builtin.«tuple.__mul__» ⟨[.ref l, .int x u], []⟩) (fun _ R s => s.heap.get? l = some { cls := .type "tuple", dict := dc, data := .seq its n, slots := sl } ∧
      R (.ok (.ret (Value.ref s.heap.objs.size))) { s with heap := s.heap.push { cls := Value.type "tuple", data := Data.seq #[] }, toks := s.toks }) :=
  .of_wp fun prog w A R s h => by
    obtain ⟨hp, gg, dr, tk, os⟩ := s
    obtain ⟨at1, h⟩ := h
    have ix := AutoSeq1.idx_int
    wp_walk using wpAny_loadPart' at1
    repeat (first
      | (refine wpAny_ite_false (decide_eq_false (by rw [k0]; exact Bool.false_ne_true)) ?_; wp_walk using wpAny_loadPart' at1)
      | (refine wpAny_ite_false (decide_eq_false (by rw [k1]; exact Bool.false_ne_true)) ?_; wp_walk using wpAny_loadPart' at1)
      | (refine wpAny_ite_true (decide_eq_true k2) ?_; wp_walk using wpAny_loadPart' at1))
    exact ⟨_, rfl, h⟩
def rMulE (K : PySem.W.Frag) : R2 := fun x y H Q => ∃ l k xs, x = .ref l ∧ y = .int k ∧ SqT K H l xs ∧ -1000 ≤ k ∧ k ≤ 1000 ∧ (((xs = [] ∨ k = 1) ∧ Q (.ref l) H) ∨ (xs ≠ [] ∧ k ≤ 0 ∧ NewT H [] Q))
omit F in
theorem op_mulE {X : Cx} : OpR X (binaryOp .Mult) (rMulE X.K) := by
  intro pins s σ H x y v u Q I rx ry h
  obtain ⟨l, k, xs, rfl, rfl, hT, b1, b2, h⟩ := h
  cases rx
  obtain ⟨t, rfl⟩ := ry
  obtain ⟨its, r, ⟨⟨cls, dc, data, sl⟩, ho, hc, n, hd⟩, _⟩ := I.tuple hT
  simp only at hc hd
  subst hc hd
  have le : its.length = xs.length := r.length.symm
  have k0 : (decide (k < -(2 ^ 63)) || decide (k ≥ 2 ^ 63)) = false := by
    rw [decide_eq_false (by omega), decide_eq_false (by omega)]; rfl
  rcases h with ⟨hx, q⟩ | ⟨hx, hk, q⟩
  · have k1 : (its.toArray.isEmpty || k == 1) = true := by
      rcases hx with hx | hx
      · subst hx
        obtain rfl : its = [] := List.eq_nil_of_length_eq_zero le
        rfl
      · subst hx; exact Bool.or_true _
    exact wpAny_binaryOp_repeat_ref (T := "tuple") (U := "int") (by decide) ⟨_, ho, rfl⟩ (fun s' => typeIs_int s' k t) noFill_tuple_mul F.fills_int_mul F.slot_int_rmul repeat_tuple F.slot_int_index.lookup
      (call_meets F.slot_int_rmul (typeIs_int s k t) F.entry_int_rmul (F.args_int_rmul_2 _ _) (int_rmul_tuple k t l its.toArray n dc sl)
        ⟨ho, rfl, ⟨_, ho, rfl⟩, call_meets F.slot_tuple_mul ⟨_, ho, rfl⟩ F.entry_tuple_mul (F.args_tuple_mul_2 _ _) (mul_same l its.toArray n dc sl k t k0 k1) ⟨ho, ⟨.ref l, H, I, rfl, q⟩⟩⟩)
  · have ne : its.toArray.isEmpty = false := by
      cases its with
      | nil => exact absurd (List.eq_nil_of_length_eq_zero le.symm) hx
      | cons a b => rfl
    have k1 : (its.toArray.isEmpty || k == 1) = false := by
      rw [ne, Bool.false_or]
      exact beq_eq_false_iff_ne.mpr (by omega)
    have k2 : (decide (k ≤ 0) || its.toArray.isEmpty) = true := by rw [decide_eq_true hk]; rfl
    refine wpAny_binaryOp_repeat_ref (T := "tuple") (U := "int") (by decide) ⟨_, ho, rfl⟩ (fun s' => typeIs_int s' k t) noFill_tuple_mul F.fills_int_mul F.slot_int_rmul repeat_tuple F.slot_int_index.lookup
      (call_meets F.slot_int_rmul (typeIs_int s k t) F.entry_int_rmul (F.args_int_rmul_2 _ _) (int_rmul_tuple k t l its.toArray n dc sl)
        ⟨ho, rfl, ⟨_, ho, rfl⟩, call_meets F.slot_tuple_mul ⟨_, ho, rfl⟩ F.entry_tuple_mul (F.args_tuple_mul_2 _ _) (mul_none l its.toArray n dc sl k t k0 k1 k2) ⟨ho, ?_⟩⟩)
    exact newT_ep (its := []) I .nil (Nat.zero_le _) q
theorem opMul : Op2 Xf K (binaryOp .Mult) .s gMul := by
  refine ⟨_, fun i => OpR.or op_mul (OpR.or op_repR (OpR.or (kkR (fun X => op_repN) i) (kkR (fun X => op_mulE) i))), fun {m G H σ e A x y dx dy d Q} st hx hy ee k => ?_⟩
  unfold gMul at ee
  split at ee
  · obtain ⟨hz, rfl⟩ := ite_some ee
    obtain rfl := dq_int hx
    obtain rfl := dq_int hy
    refine .inl ⟨_, _, rfl, rfl, ?_, ans_s st (.int _) k⟩
    unfold mulOk at hz
    rcases (Bool.or_eq_true _ _).mp hz with h | h
    · have := of_decide_eq_true h; exact .inl (by omega)
    · have := of_decide_eq_true h; exact .inr (by omega)
  · exact .inr (.inl (d2_repL st hx hy ee (kfrz rfl k)))
  · rename_i kk
    obtain ⟨hz, rfl⟩ := ite_some ee
    obtain ⟨a, xs, rfl, r1, z1, q1⟩ := dq_tup hx
    obtain rfl := dq_int hy
    have l1 := q1.1
    have hz2 : (List.replicate kk.toNat xs).flatten.length ≤ sizeLine := by
      rw [PyProof.Rows.lm_len_rep_flat, l1]
      have h1 : kk.toNat ≤ 1000 := Int.toNat_le.mpr hz.2.1
      exact Nat.le_trans (Nat.mul_le_mul h1 hz.2.2) (by decide)
    have e0 : xs = [] → ∀ ds' : List PyData, ds'.length = xs.length → (List.replicate kk.toNat ds').flatten = ds' := fun h ds' hl => by
      subst h
      obtain rfl := List.eq_nil_of_length_eq_zero hl
      induction kk.toNat with
      | zero => rfl
      | succ n ih => rw [List.replicate_succ, List.flatten_cons, ih]; rfl
    by_cases h0 : xs = []
    · refine .inr (.inr (.inr ⟨a, _, xs, rfl, rfl, same_seqT st.sub r1, hz.1, hz.2.1, .inl ⟨.inl h0, ?_⟩⟩))
      rw [e0 h0 _ l1.symm] at k
      exact ans_s st hx k
    · by_cases h1 : kk = 1
      · subst h1
        refine .inr (.inr (.inr ⟨a, _, xs, rfl, rfl, same_seqT st.sub r1, hz.1, hz.2.1, .inl ⟨.inr rfl, ?_⟩⟩))
        rw [show (1 : Int).toNat = 1 from rfl, List.replicate_one, List.flatten_singleton] at k
        exact ans_s st hx k
      · by_cases h2 : kk ≤ 0
        · refine .inr (.inr (.inr ⟨a, _, xs, rfl, rfl, same_seqT st.sub r1, hz.1, hz.2.1, .inr ⟨h0, h2, ?_⟩⟩))
          rw [Int.toNat_of_nonpos h2, List.replicate_zero, List.flatten_nil] at k
          exact ans_tup st DqA.nil (Nat.zero_le _) k
        · exact .inr (.inr (.inl ⟨a, _, xs, rfl, rfl, same_seqT st.sub r1, h0, by omega, hz.2.1, by omega, ans_tup st (q1.flat _) hz2 k⟩))
  · cases ee
theorem opFdiv : Op2 Xf K (binaryOp .FloorDiv) .s gFdiv := ⟨_, fun i => op_fdivW, fun {m G H σ e A x y dx dy d Q} st hx hy ee k => by
  unfold gFdiv at ee
  split at ee
  · obtain ⟨hz, rfl⟩ := ite_some ee
    obtain rfl := dq_int hx
    obtain rfl := dq_int hy
    exact ⟨_, _, rfl, rfl, hz, ans_s st (.int _) k⟩
  · cases ee⟩
theorem opMod : Op2 Xf K (binaryOp .Mod) .s gMod := ⟨_, fun i => op_mod, fun {m G H σ e A x y dx dy d Q} st hx hy ee k => by
  unfold gMod at ee
  split at ee
  · obtain ⟨hz, rfl⟩ := ite_some ee
    obtain rfl := dq_int hx
    obtain rfl := dq_int hy
    exact ⟨_, _, rfl, rfl, hz, ans_s st (.int _) k⟩
  · cases ee⟩
theorem opPow : Op2 Xf K (binaryOp .Pow) .s gPow := ⟨_, fun i => op_pow, fun {m G H σ e A x y dx dy d Q} st hx hy ee k => by
  unfold gPow at ee
  split at ee
  · obtain ⟨hz, rfl⟩ := ite_some ee
    obtain rfl := dq_int hx
    obtain rfl := dq_int hy
    exact ⟨_, _, rfl, rfl, hz, ans_s st (.int _) k⟩
  · cases ee⟩
theorem pd_neg {m m1 : List Ty} {pos : Pos} {a : Expr} {f : Ef} (ha : PD Xf K m a .s f m1) : PD Xf K m (.UnaryOp .USub a pos) .s (e1 gNeg f) m1 := by
  obtain ⟨ta, pa, da⟩ := ha.ex
  refine ⟨_, fun i => pe_un un_neg (pa i), DE.un da fun {m G H σ e A x dx d Q} st hx ee k => ?_⟩
  unfold gNeg at ee
  split at ee
  · cases ee
    obtain rfl := dq_int hx
    exact ⟨_, rfl, ans_s st (.int _) k⟩
  · cases ee
end
def gIx : PyData → PyData → Option PyData
  | .list xs, .int i => atI xs i
  | .tuple xs, .int i => atI xs i
  | .str z, .int i => (atI z.cps.toList i).map fun c => .str ⟨#[c]⟩
  | _, _ => none
def cutD (ds : List PyData) (lo hi : Option Int) : List PyData := (ds.drop (HT.sIx ds.length 0 lo)).take (HT.sIx ds.length ds.length hi - HT.sIx ds.length 0 lo)
def prt : PyData → Option (Option Int)
  | .int i => some (some i)
  | _ => none
def gSlL (x : PyData) (lo hi : Option Int) : Option PyData :=
  match x with
  | .list xs => some (.list (cutD xs lo hi))
  | _ => none
theorem atI_dq {K : PySem.W.Frag} {G : Hp} {xs : List V} {ds : List PyData} (q : DqA K G xs ds) {i : Int} {d : PyData} (h : atI ds i = some d) : ∃ v, atI xs i = some v ∧ Dq K G v d := by
  unfold atI at h ⊢
  obtain ⟨j, hj, hd⟩ := oBs h
  obtain ⟨v, hv, qv⟩ := q.get hd
  exact ⟨v, by rw [q.1, hj]; exact hv, qv⟩
abbrev Of := En → Option (Option Int × En)
def oNone : Of := fun e => some (none, e)
def oSome (f : Ef) : Of := fun e => (f e).bind fun p => (prt p.1).bind fun i => some (i, p.2)
def DO (K : PySem.W.Frag) (m : List Ty) (t : TO) (f : Of) (m' : List Ty) : Prop :=
  ∀ {G H : Hp} {σ : St} {e : En} {A : List Addr} {o : Option Int} {e' : En} {Q : Option Int → Hp → Prop}, Stt K m G H σ e A → f e = some (o, e') →
    (∀ (G' H' : Hp) (A' : List Addr), Step A G H A' G' H' → Stt K m' G' H' σ e' A' → Q o H') → t σ H Q
structure PP {ι : Type} (Xf : ι → Cx) (K : PySem.W.Frag) (m : List Ty) (e : Option Expr) (f : Of) (m' : List Ty) : Prop where
  ex : ∃ t : TO, (∀ i, PO (Xf i) e t) ∧ DO K m t f m'
def eSl (gg : PyData → Option Int → Option Int → Option PyData) (a : Ef) (l u : Of) : Ef := fun e => (a e).bind fun p => (l p.2).bind fun q => (u q.2).bind fun r => (gg p.1 q.1 r.1).bind fun d => some (d, r.2)
section
variable {ι : Type} {Xf : ι → Cx} {P : Program} {w : World} {K : PySem.W.Frag} {mg : Str → Option Value} {base : Heap} {n : Nat} [F : Fam Xf P w K mg base n]
variable {m m1 m2 m3 : List Ty} {pos p p2 : Pos} {a b c : Expr} {f g h : Ef}
include F
theorem kkIx {r : PySem.W.Frag → R2} (h : ∀ X : Cx, IxR X (r X.K)) (i : ι) : IxR (Xf i) (r K) := by
  have := h (Xf i)
  rw [F.kk i] at this
  exact this
theorem ixAny : Ix2 Xf K .s gIx := by
  refine ⟨_, fun i => IxR.or (kkIx (fun X => ix_list) i) (IxR.or (kkIx (fun X => ix_tup) i) ix_str), fun {m G H σ e A x y dx dy d Q} st hx hy ee k => ?_⟩
  unfold gIx at ee
  split at ee
  · obtain ⟨a, xs, rfl, r1, z1, q1⟩ := dq_lst hx
    obtain rfl := dq_int hy
    obtain ⟨v, hv, qv⟩ := atI_dq q1 ee
    exact .inl ⟨_, _, _, v, rfl, rfl, .inl (same_rd st.sub r1), hv, ans_s st qv k⟩
  · obtain ⟨a, xs, rfl, r1, z1, q1⟩ := dq_tup hx
    obtain rfl := dq_int hy
    obtain ⟨v, hv, qv⟩ := atI_dq q1 ee
    exact .inr (.inl ⟨_, _, _, v, rfl, rfl, same_seqT st.sub r1, hv, ans_s st qv k⟩)
  · obtain ⟨rfl, z1⟩ := dq_str hx
    obtain rfl := dq_int hy
    obtain ⟨cc, hc, rfl⟩ := Option.map_eq_some_iff.mp ee
    exact .inr (.inr ⟨_, _, cc, rfl, rfl, z1, hc, ans_s st (.str _ (by show 1 ≤ sizeLine; decide)) k⟩)
  · cases ee
end
end DL
namespace DL
open PySem L2 PySem.Spec
def gTruth : PyData → Option Bool
  | .none => some false
  | .bool b => some b
  | .int i => some (i != 0)
  | .str y => some ((y.length : Int) != 0)
  | .list xs => some (!xs.isEmpty)
  | .tuple xs => some (!xs.isEmpty)
  | _ => none
def bOf (f : Ef) : Bf := fun e => (f e).bind fun p => (gTruth p.1).bind fun b => some (b, p.2)
def bAnd (f g : Bf) : Bf := fun e => (f e).bind fun p => if p.1 = true then g p.2 else some (false, p.2)
def bOr (f g : Bf) : Bf := fun e => (f e).bind fun p => if p.1 = true then some (true, p.2) else g p.2
def bNot (f : Bf) : Bf := fun e => (f e).bind fun p => some (!p.1, p.2)
def eAnd (f g : Ef) : Ef := fun e => (f e).bind fun p => match p.1 with
  | .bool true => g p.2
  | .bool false => some (.bool false, p.2)
  | _ => none
def eOr (f g : Ef) : Ef := fun e => (f e).bind fun p => match p.1 with
  | .bool true => some (.bool true, p.2)
  | .bool false => g p.2
  | _ => none
def eIf (c : Bf) (f g : Ef) : Ef := fun e => (c e).bind fun p => if p.1 = true then f p.2 else g p.2
def eChain (g1 g2 : PyData → PyData → Option PyData) (a b c : Ef) : Ef := fun e => (a e).bind fun p => (b p.2).bind fun q => (g1 p.1 q.1).bind fun r => match r with
  | .bool true => (c q.2).bind fun t => (g2 q.1 t.1).bind fun z => some (z, t.2)
  | .bool false => some (.bool false, q.2)
  | _ => none
section
variable {ι : Type} {Xf : ι → Cx} {P : Program} {w : World} {K : PySem.W.Frag} {mg : Str → Option Value} {base : Heap} {n : Nat} [F : Fam Xf P w K mg base n]
variable {m m1 m2 m3 : List Ty} {pos p p2 : Pos} {a b c : Expr} {f g h : Ef} {fb gb : Bf} {ty : Ty} {rest : List Expr}
theorem truV_of {G H : Hp} {v : V} {d : PyData} {b : Bool} (q : Dq K G v d) (sub : Same G H) (h : gTruth d = some b) : TruV K v H b := by
  cases q with
  | non => cases h; rfl
  | bl => cases h; rfl
  | int => cases h; rfl
  | str x hx => cases h; exact ⟨hx, rfl⟩
  | @lst a xs ds hs hl hz _ =>
    cases h
    refine .inl ⟨xs, .inl (same_rd sub hs), ?_⟩
    cases xs <;> cases ds <;> simp_all
  | @tup a xs ds hs hl hz _ =>
    cases h
    refine .inr (.inl ⟨xs, same_seqT sub hs.sq, ?_⟩)
    cases xs <;> cases ds <;> simp_all
  | dic => cases h
  | dv => cases h
  | ob => cases h
include F in
theorem pb_of (ha : PD Xf K m a .s f m1) (he : ∀ i whole, isTrue a (Xf i).env whole = (do let v ← whole; standAt a.pos; holding [v] (truthy v)) := by intro _ _; rfl) : PB Xf K m a (bOf f) m1 := by
  obtain ⟨ta, pa, da⟩ := ha.ex
  refine ⟨fun σ H Q => ta σ H fun x H' => ∃ k, TruV K x H' k ∧ Q k H', fun i => ?_, fun {G H σ e A b e' Q} st hf k => ?_⟩
  · have := pt_truth (X := Xf i) (pa i) (he i)
    rw [F.kk i] at this
    exact this
  · unfold bOf at hf
    obtain ⟨⟨d1, e1⟩, hf1, hf⟩ := oBs hf
    obtain ⟨b1, hf2, hf⟩ := oBs hf
    cases hf
    refine da st hf1 fun G1 H1 v1 A1 B1 s1 st1 o1 nd1 => ?_
    cases o1 with
    | s q1 => exact ⟨_, truV_of q1 st1.sub hf2, k _ _ _ s1 st1⟩
theorem DT.and {t u : TT} (ha : DT K m t fb m1) (hb : DT K m1 u gb m1) : DT K m (tAnd t u) (bAnd fb gb) m1 := by
  intro G H σ e A b e' Q st hf k
  unfold bAnd at hf
  obtain ⟨⟨b1, e1⟩, hf1, hf⟩ := oBs hf
  refine ha st hf1 fun G1 H1 A1 s1 st1 => ?_
  cases b1 with
  | true => rw [if_pos rfl] at hf ⊢; exact hb st1 hf fun G2 H2 A2 s2 st2 => k _ _ _ (s1.seq0 s2) st2
  | false => rw [if_neg (by simp)] at hf ⊢; cases hf; exact k _ _ _ s1 st1
theorem DT.or {t u : TT} (ha : DT K m t fb m1) (hb : DT K m1 u gb m1) : DT K m (tOr t u) (bOr fb gb) m1 := by
  intro G H σ e A b e' Q st hf k
  unfold bOr at hf
  obtain ⟨⟨b1, e1⟩, hf1, hf⟩ := oBs hf
  refine ha st hf1 fun G1 H1 A1 s1 st1 => ?_
  cases b1 with
  | true => rw [if_pos rfl] at hf ⊢; cases hf; exact k _ _ _ s1 st1
  | false => rw [if_neg (by simp)] at hf ⊢; exact hb st1 hf fun G2 H2 A2 s2 st2 => k _ _ _ (s1.seq0 s2) st2
theorem pbw_or1 (ha : PB Xf K m a fb m1) : PBw Xf K m (.BoolOp .Or [a] pos) fb m1 := by
  obtain ⟨ta, pa, da⟩ := ha.ex
  exact ⟨ta, fun i => pw_or1 (pa i), da⟩
theorem pbw_or (ha : PB Xf K m a fb m1) (hb : PBw Xf K m1 (.BoolOp .Or (b :: rest) pos) gb m1) : PBw Xf K m (.BoolOp .Or (a :: b :: rest) pos) (bOr fb gb) m1 := by
  obtain ⟨ta, pa, da⟩ := ha.ex
  obtain ⟨tb, pb, db⟩ := hb.ex
  exact ⟨_, fun i => pw_or (pa i) (pb i), DT.or da db⟩
theorem pb_w (ha : PBw Xf K m a fb m1) : PB Xf K m a fb m1 := by
  obtain ⟨ta, pa, da⟩ := ha.ex
  exact ⟨ta, fun i => (pa i).pt, da⟩
theorem pb_not (ha : PB Xf K m a fb m1) : PB Xf K m (.UnaryOp .Not a pos) (bNot fb) m1 := by
  obtain ⟨ta, pa, da⟩ := ha.ex
  refine ⟨_, fun i => pt_not (pa i), fun {G H σ e A b e' Q} st hf k => ?_⟩
  unfold bNot at hf
  obtain ⟨⟨b1, e1⟩, hf1, hf⟩ := oBs hf
  cases hf
  exact da st hf1 fun G1 H1 A1 s1 st1 => k _ _ _ s1 st1
theorem DE.chain {r r' : R2} {ta tb tc : TE} {g1 g2 : PyData → PyData → Option PyData} (ha : DE K m ta .s f m1) (hb : DE K m1 tb .s g m2) (hc : DE K m2 tc .s h m2) (hr : D2 K r .s g1) (hr' : D2 K r' .s g2) : DE K m (tChain r r' ta tb tc) .s (eChain g1 g2 f g h) m2 := by
  intro G H σ e A d e' Q st hf k
  unfold eChain at hf
  obtain ⟨⟨d1, e1⟩, hf1, hf⟩ := oBs hf
  obtain ⟨⟨d2, e2⟩, hf2, hf⟩ := oBs hf
  obtain ⟨d3, hf3, hf⟩ := oBs hf
  refine ha st hf1 fun G1 H1 v1 A1 B1 s1 st1 o1 nd1 => ?_
  cases o1 with
  | s q1 =>
    refine hb st1 hf2 fun G2 H2 v2 A2 B2 s2 st2 o2 nd2 => ?_
    cases o2 with
    | s q2 =>
      refine hr st2 (q1.mono s2.sg) q2 hf3 fun G3 H3 v3 A3 B3 s3 st3 o3 nd3 => ?_
      cases o3 with
      | s q3 =>
        have s03 := (s1.seq0 s2).seq0 s3
        cases q3 with
        | bl b3 =>
          refine ⟨b3, rfl, ?_⟩
          cases b3 with
          | true =>
            rw [if_pos rfl]
            obtain ⟨⟨d4, e4⟩, hf4, hf⟩ := oBs hf
            obtain ⟨d5, hf5, hf⟩ := oBs hf
            cases hf
            refine hc st3 hf4 fun G4 H4 v4 A4 B4 s4 st4 o4 nd4 => ?_
            cases o4 with
            | s q4 => exact hr' st4 (q2.mono (s3.sg.trans s4.sg)) q4 hf5 fun G5 H5 v5 A5 B5 s5 st5 o5 nd5 => k _ _ _ _ _ ((s03.seq0 s4).seq0 s5) st5 o5 nd5
          | false =>
            rw [if_neg (by simp)]
            cases hf
            exact ans_s st3 (.bl false) fun G5 H5 v5 A5 B5 s5 st5 o5 nd5 => k _ _ _ _ _ (s03.seq0 s5) st5 o5 nd5
        | _ => cases hf
theorem DE.test {te : TE} (ha : DE K m te .s f m1) : DT K m (tTest te) (fun e => (f e).bind fun p => match p.1 with | .bool b => some (b, p.2) | _ => none) m1 := by
  intro G H σ e A b e' Q st hf k
  obtain ⟨⟨d1, e1⟩, hf1, hf⟩ := oBs hf
  refine ha st hf1 fun G1 H1 v1 A1 B1 s1 st1 o1 nd1 => ?_
  cases o1 with
  | s q1 =>
    cases q1 with
    | bl b1 => cases hf; exact ⟨_, rfl, k _ _ _ s1 st1⟩
    | _ => cases hf
end
def bT (f : Ef) : Bf := fun e => (f e).bind fun p => match p.1 with | .bool b => some (b, p.2) | _ => none
section
variable {ι : Type} {Xf : ι → Cx} {P : Program} {w : World} {K : PySem.W.Frag} {mg : Str → Option Value} {base : Heap} {n : Nat} [F : Fam Xf P w K mg base n]
variable {m m1 m2 m3 : List Ty} {pos p p2 : Pos} {a b c : Expr} {f g h : Ef} {fb gb : Bf} {ty : Ty} {rest : List Expr}
theorem pb_cmp {op : CmpOp} {gg : PyData → PyData → Option PyData} (ho : Op2 Xf K (compareOp op) .s gg) (ha : PD Xf K m a .s f m1) (hb : PD Xf K m1 b .s g m2) (hm : behindInMarks op b = false := by first | exact nomark _ | rfl) : PB Xf K m (.Compare a [op] [b] pos) (bT (e2 gg f g)) m2 := by
  obtain ⟨r, hr, dr⟩ := ho.ex
  obtain ⟨ta, pa, da⟩ := ha.ex
  obtain ⟨tb, pb, db⟩ := hb.ex
  exact ⟨_, fun i => pt_cmpR (hr i) (pa i) (pb i) hm, DE.test (DE.bin da db dr)⟩
end
def LendOk (σ : St) (vs : List V) (L : List (Option Nat)) : Prop := ∀ k j : Nat, L[k]? = some (some j) → ∃ v, vs[k]? = some v ∧ σ[j]? = some (some v)
def DAL (K : PySem.W.Frag) (m : List Ty) (ta : TA) (tys : List Ty) (L : List (Option Nat)) (f : Lf) (m' : List Ty) : Prop :=
  ∀ {G H : Hp} {σ : St} {e : En} {A : List Addr} {ds : List PyData} {e' : En} {Q : List V → Hp → Prop}, Stt K m G H σ e A → f e = some (ds, e') →
    (∀ (G' H' : Hp) (vs : List V) (Av A' : List Addr), Step A G H (Av ++ A') G' H' → Stt K m' G' H' σ e' A' → OwnA K G' H' tys ds (vs.map some) Av → (Av ++ A').Nodup → LendOk σ vs L → Q vs H') → ta σ H Q
structure PAL {ι : Type} (Xf : ι → Cx) (K : PySem.W.Frag) (m : List Ty) (es : List Expr) (tys : List Ty) (L : List (Option Nat)) (f : Lf) (m' : List Ty) : Prop where
  ex : ∃ ta : TA, (∀ i, PA (Xf i) es ta) ∧ DAL K m ta tys L f m'
def lNil : Lf := fun e => some ([], e)
def lCons (f : Ef) (r : Lf) : Lf := fun e => (f e).bind fun p => (r p.2).bind fun q => some (p.1 :: q.1, q.2)
def eLend : Ef := fun e => some (.none, e)
section
variable {ι : Type} {Xf : ι → Cx} {P : Program} {w : World} {K : PySem.W.Frag} {mg : Str → Option Value} {base : Heap} {n : Nat} [F : Fam Xf P w K mg base n]
variable {m m1 m2 m3 : List Ty} {pos p p2 : Pos} {a b c : Expr} {es : List Expr} {f g h : Ef} {fr : Lf} {ty : Ty} {tys : List Ty} {L : List (Option Nat)}
theorem pl_nil : PAL Xf K m [] [] [] lNil m := ⟨_, fun i => pa_nil, fun {G H σ e A ds e' Q} st hf k => by
  cases hf
  exact k G H [] [] A Step.refl st .nil st.nd fun k j h => by simp at h⟩
theorem DAL.cons {te : TE} {ta : TA} (ha : DE K m te ty f m1) (hr : DAL K m1 ta tys L fr m2) : DAL K m (tCons te ta) (ty :: tys) (none :: L) (lCons f fr) m2 := by
  intro G H σ e A ds e' Q st hf k
  unfold lCons at hf
  obtain ⟨⟨d1, e1⟩, hf1, hf⟩ := oBs hf
  obtain ⟨⟨ds1, e2⟩, hf2, hf⟩ := oBs hf
  cases hf
  refine ha st hf1 fun G1 H1 v1 A1 B1 s1 st1 o1 nd1 => hr st1 hf2 fun G2 H2 vs A2 B2 s2 st2 o2 nd2 hl => ?_
  obtain ⟨s3, nd3, hg, hh⟩ := s1.seq (own_at o1) nd1 s2 nd2
  rw [← List.append_assoc] at s3 nd3
  refine k G2 H2 (v1 :: vs) (A1 ++ A2) B2 s3 st2 (.cons (own_fr o1 s2.sg hg hh) o2) nd3 fun kk j hj => ?_
  cases kk with
  | zero => simp at hj
  | succ kk => exact hl kk j (by simpa using hj)
theorem pl_cons (ha : PD Xf K m a ty f m1) (hr : PAL Xf K m1 es tys L fr m2) (hs : ∀ i, starEach (a :: es) (Xf i).env = (false, eval a (Xf i).env) :: starEach es (Xf i).env := by intro _; rfl) : PAL Xf K m (a :: es) (ty :: tys) (none :: L) (lCons f fr) m2 := by
  obtain ⟨ta, pa, da⟩ := ha.ex
  obtain ⟨tr, pr, dr⟩ := hr.ex
  exact ⟨_, fun i => pa_cons (pa i) (pr i) (hs i), DAL.cons da dr⟩
theorem pl_lend (j : Nat) {x : Str} {t : Ty} (hr : PAL Xf K m es tys L fr m2) (hm : m[j]? = some t := by rfl) (hu : t ≠ .u := by exact fun z => nomatch z) (hN : ∀ i, (Xf i).N[j]? = some x := by intro _; rfl)
    (hv : ∀ i, Vis (Xf i).env.scope x := by first | (intro _; exact Or.inl rfl) | (intro _; exact Or.inr (Or.inl rfl)) | (intro _; exact Or.inr (Or.inr rfl))) (hd : (x == ("__debug__" : Str)) = false := by decide)
    (hcd : (x == ("__classdict__" : Str)) = false := by decide) (hs : ∀ i, starEach (.Name x pos :: es) (Xf i).env = (false, eval (.Name x pos) (Xf i).env) :: starEach es (Xf i).env := by intro _; rfl) :
    PAL Xf K m (.Name x pos :: es) (.u :: tys) (some j :: L) (lCons eLend fr) m2 := by
  obtain ⟨tr, pr, dr⟩ := hr.ex
  refine ⟨_, fun i => pa_cons (pe_var (i := j) (hN i) (hv i) hd hcd) (pr i) (hs i), fun {G H σ e A ds e' Q} st hf k => ?_⟩
  unfold lCons eLend at hf
  obtain ⟨⟨d1, e1⟩, hf1, hf⟩ := oBs hf
  cases hf1
  obtain ⟨⟨ds1, e2⟩, hf2, hf⟩ := oBs hf
  cases hf
  obtain ⟨d', v, Aj, A0, h1, h2, h3, h4, hp⟩ := ownA_take st.own hm
  have hv : ∃ x, v = some x := by
    cases h3 with
    | u => exact absurd rfl hu
    | s => exact ⟨_, rfl⟩
    | e => exact ⟨_, rfl⟩
    | k => exact ⟨_, rfl⟩
    | a => exact ⟨_, rfl⟩
    | q => exact ⟨_, rfl⟩
    | d => exact ⟨_, rfl⟩
    | t => exact ⟨_, rfl⟩
    | o => exact ⟨_, rfl⟩
    | f => exact ⟨_, rfl⟩
    | x => exact ⟨_, rfl⟩
    | g => exact ⟨_, rfl⟩
    | l => exact ⟨_, rfl⟩
    | r => exact ⟨_, rfl⟩
  obtain ⟨x, rfl⟩ := hv
  refine ⟨x, h2, dr st hf2 fun G2 H2 vs A2 B2 s2 st2 o2 nd2 hl => k G2 H2 (x :: vs) A2 B2 s2 st2 (OwnA.cons (A := []) (.u _ _) o2) nd2 fun kk j' hj => ?_⟩
  cases kk with
  | zero =>
    simp at hj
    subst hj
    exact ⟨x, rfl, h2⟩
  | succ kk => exact hl kk j' (by simpa using hj)
def eTup (r : Lf) : Ef := fun e => (r e).bind fun p => some (.tuple p.1, p.2)
def eLst (r : Lf) : Ef := fun e => (r e).bind fun p => some (.list p.1, p.2)
theorem pd_tup {k : Nat} (hr : PAL Xf K m es (List.replicate k .s) L fr m1) (hk : es.length = k := by rfl) (hz : k ≤ sizeLine := by decide) {x1} : PD Xf K m (.Tuple es x1 pos) .s (eTup fr) m1 := by
  obtain ⟨tr, pr, dr⟩ := hr.ex
  refine ⟨_, fun i => pe_tupN (pr i), fun {G H σ e A d e' Q} st hf k' => ?_⟩
  unfold eTup at hf
  obtain ⟨⟨ds1, e1⟩, hf1, hf⟩ := oBs hf
  cases hf
  refine dr st hf1 fun G1 H1 vs A1 B1 s1 st1 o1 nd1 _ => ?_
  obtain ⟨e0, q⟩ := of_ownA o1
  subst e0
  have hl := (ownA_len o1).1
  rw [List.length_replicate] at hl
  have hz2 : vs.length ≤ sizeLine := by rw [q.1, ← hl]; exact hz
  exact ⟨hz2, ans_tup st1 q hz2 fun G2 H2 v2 A2 B2 s2 st2 o2 nd2 => k' _ _ _ _ _ (s1.seq0 s2) st2 o2 nd2⟩
theorem DAL.lst {ta : TA} {tyR : Ty} {tys : List Ty} (dr : DAL K m ta tys L fr m1) (hz : tys.length ≤ sizeLine) (mk : ∀ {G H : Hp} {a : Addr} {vs : List V} {ds : List PyData} {A : List Addr}, G a = none → H a = some (.lst vs) → vs.length ≤ sizeLine → OwnA K G H tys ds (vs.map some) A → Own K G H tyR (.list ds) (some (.ref a)) (a :: A)) : DE K m (tLst ta) tyR (eLst fr) m1 := by
  intro G H σ e A d e' Q st hf k'
  unfold eLst at hf
  obtain ⟨⟨ds1, e1⟩, hf1, hf⟩ := oBs hf
  cases hf
  refine dr st hf1 fun G1 H1 vs A1 B1 s1 st1 o1 nd1 _ => ?_
  have hl := ownA_len o1
  have hz2 : vs.length ≤ sizeLine := by have := hl.2; rw [List.length_map] at this; omega
  refine ⟨hz2, fun p hp => ?_⟩
  obtain ⟨s2, st2, nd2, gp⟩ := new_o (o := .lst vs) (B := []) st1 hp
  have nv : ∀ a ∈ A1, a ≠ p := fun a ha z => by obtain ⟨_, o, e⟩ := ownA_at o1 a ha; rw [z, hp] at e; cases e
  have o1' : OwnA K G1 (upd H1 p (.lst vs)) tys ds1 (vs.map some) A1 := ownA_fr o1 (Same.refl _) (fun a ha => (ownA_at o1 a ha).1) fun a ha => upd_ne (nv a ha)
  have nd3 : (p :: (A1 ++ B1)).Nodup := List.nodup_cons.mpr ⟨fun h => (List.mem_append.mp h).elim (fun h => nv p h rfl) fun h => (List.nodup_cons.mp nd2).1 h, nd1⟩
  refine k' G1 (upd H1 p (.lst vs)) (.ref p) (p :: A1) B1 ?_ st2 (mk gp upd_same hz2 o1') nd3
  refine ⟨s1.sg, fun a o h ha => ?_, fun a ha => ?_, s1.gnew⟩
  · have h1 := s1.fr a o h ha
    rw [upd_ne (ne_of_none h1 hp)]; exact h1
  · rcases List.mem_cons.mp ha with rfl | ha
    · exact s1.back hp
    · exact s1.own a ha
theorem pd_lst {k : Nat} (t : Ty) (hr : PAL Xf K m es (List.replicate k t) L fr m1) (hz : k ≤ sizeLine := by decide) : PD Xf K m (.List es pos) (.l t) (eLst fr) m1 := by
  obtain ⟨tr, pr, dr⟩ := hr.ex
  refine ⟨_, fun i => pe_lst (pr i), DAL.lst dr (by rw [List.length_replicate]; exact hz) fun h1 h2 h3 o => .l h1 h2 h3 ?_⟩
  have hl := (ownA_len o).1
  rw [List.length_replicate] at hl
  rw [← hl]; exact o
theorem pd_rec (hr : PAL Xf K m es tys L fr m1) (hz : tys.length ≤ sizeLine := by decide) : PD Xf K m (.List es pos) (.r tys) (eLst fr) m1 := by
  obtain ⟨tr, pr, dr⟩ := hr.ex
  exact ⟨_, fun i => pe_lst (pr i), DAL.lst dr hz fun h1 h2 h3 o => .r h1 h2 h3 o⟩
end
end DL
namespace DL
open PySem L2 PySem.Spec
inductive LeT : Ty → Ty → Prop
  | rfl (t : Ty) : LeT t t
  | u (t : Ty) : LeT t .u
  | s (t : Ty) (h : nou t = true) : LeT t .s
  | kr (v2 : V) (t0 t1 t2 : Ty) : LeT (.r [t0, t1, .k v2 t2]) (.r [t0, t1, t2])
  | kd (v : V) (t : Ty) : LeT (.k v t) t
  | f (C : Addr) (ns : List Str) (ts : List Ty) (h : nouL ts = true) : LeT (.o C ns ts) (.f C ns)
theorem frz_allT {K : PySem.W.Frag} {G G' H : Hp} (e : Same G G') : ∀ {ts : List Ty} {ds : List PyData} {vs : List V} {A : List Addr}, OwnA K G H ts ds (vs.map some) A → (∀ a ∈ A, G' a = H a) → nouL ts = true → DqA K G' vs ds
  | [], ds, vs, A, o, hg, hn => by
    cases vs with
    | nil => cases o; exact DqA.nil
    | cons v vs => cases o
  | t :: ts, ds, vs, A, o, hg, hn => by
    cases vs with
    | nil => cases o
    | cons v vs =>
      have o : OwnA K G H (t :: ts) ds (some v :: vs.map some) A := o
      cases o with
      | @cons _ _ d ds' _ _ A1 B1 o1 o2 =>
        have hn : (nou t && nouL ts) = true := hn
        rw [Bool.and_eq_true] at hn
        obtain ⟨x, hx, q⟩ := own_frz o1 e (fun a ha => hg a (List.mem_append_left _ ha)) hn.1
        cases hx
        exact DqA.cons q (frz_allT e o2 (fun a ha => hg a (List.mem_append_right _ ha)) hn.2)
theorem own_of_k {K : PySem.W.Frag} {G H : Hp} {v : V} {t : Ty} {d : PyData} {x : Option V} {A : List Addr} (h : Own K G H (.k v t) d x A) : x = some v ∧ Own K G H t d x A := by
  cases h with
  | k h => exact ⟨rfl, h⟩
theorem ownA_unk3 {K : PySem.W.Frag} {G H : Hp} {v2 : V} {t0 t1 t2 : Ty} {ds : List PyData} {vs : List (Option V)} {A : List Addr} (h : OwnA K G H [t0, t1, .k v2 t2] ds vs A) : OwnA K G H [t0, t1, t2] ds vs A := by
  cases h with
  | cons h1 h =>
    cases h with
    | cons h2 h =>
      cases h with
      | cons h3 h =>
        cases h
        exact .cons h1 (.cons h2 (.cons (own_of_k h3).2 .nil))
theorem own_unk {K : PySem.W.Frag} {G H : Hp} {v2 : V} {t0 t1 t2 : Ty} {d : PyData} {v : Option V} {A : List Addr} (h : Own K G H (.r [t0, t1, .k v2 t2]) d v A) : Own K G H (.r [t0, t1, t2]) d v A := by
  cases h with
  | r ga ha hz o => exact .r ga ha hz (ownA_unk3 o)
inductive LeM : List Ty → List Ty → Prop
  | nil : LeM [] []
  | cons {t t' : Ty} {m m' : List Ty} : LeT t t' → LeM m m' → LeM (t :: m) (t' :: m')
theorem LeM.refl : ∀ m : List Ty, LeM m m
  | [] => .nil
  | t :: m => .cons (.rfl t) (LeM.refl m)
section
variable {K : PySem.W.Frag} {G H : Hp}
theorem ownA_le {m m' : List Ty} (l : LeM m m') : ∀ {e : En} {σ : St} {A : List Addr}, OwnA K G H m e σ A →
    ∃ Fz Dr A' : List Addr, A.Perm (Fz ++ (Dr ++ A')) ∧ ∀ G' : Hp, Same G G' → (∀ a ∈ Fz, G' a = H a) → (∀ a ∈ A', G' a = none) → OwnA K G' H m' e σ A' := by
  induction l with
  | nil => intro e σ A h; cases h; exact ⟨[], [], [], by simp, fun _ _ _ _ => .nil⟩
  | @cons t t' m m' lt lm ih =>
    intro e σ A h
    cases h with
    | @cons _ _ d ds v vs A1 A2 h1 h2 =>
      obtain ⟨Fz, Dr, A', p, k⟩ := ih h2
      cases lt with
      | rfl =>
        refine ⟨Fz, Dr, A1 ++ A', ?_, fun G' sg hf ha => .cons (own_fr h1 sg (fun a h => ha a (List.mem_append_left _ h)) fun _ _ => rfl) (k G' sg hf fun a h => ha a (List.mem_append_right _ h))⟩
        refine (List.Perm.append_left A1 p).trans (List.perm_iff_count.mpr fun z => ?_)
        simp only [List.count_append]; omega
      | kr v2 t0 t1 t2 =>
        refine ⟨Fz, Dr, A1 ++ A', ?_, fun G' sg hf ha => .cons (own_unk (own_fr h1 sg (fun a h => ha a (List.mem_append_left _ h)) fun _ _ => rfl)) (k G' sg hf fun a h => ha a (List.mem_append_right _ h))⟩
        refine (List.Perm.append_left A1 p).trans (List.perm_iff_count.mpr fun z => ?_)
        simp only [List.count_append]; omega
      | kd v2 t0 =>
        refine ⟨Fz, Dr, A1 ++ A', ?_, fun G' sg hf ha => .cons (own_fr (own_of_k h1).2 sg (fun a h => ha a (List.mem_append_left _ h)) fun _ _ => rfl) (k G' sg hf fun a h => ha a (List.mem_append_right _ h))⟩
        refine (List.Perm.append_left A1 p).trans (List.perm_iff_count.mpr fun z => ?_)
        simp only [List.count_append]; omega
      | u =>
        refine ⟨Fz, A1 ++ Dr, A', ?_, fun G' sg hf ha => OwnA.cons (A := []) (.u _ _) (k G' sg hf ha)⟩
        refine (List.Perm.append_left A1 p).trans (List.perm_iff_count.mpr fun z => ?_)
        simp only [List.count_append]; omega
      | f C ns ts hno =>
        refine ⟨A1 ++ Fz, Dr, A', ?_, fun G' sg hf ha => ?_⟩
        · rw [List.append_assoc]; exact List.Perm.append_left A1 p
        · cases h1 with
          | @o _ dx a _ _ fs ds Ai ga gd ha1 hdx hn oi =>
            have oi2 : OwnA K G H ts ds ((fs.map (·.2)).map some) Ai := by rw [List.map_map]; exact oi
            have q := frz_allT sg oi2 (fun b hb => hf b (List.mem_append_left _ (List.mem_cons_of_mem _ (List.mem_cons_of_mem _ hb)))) hno
            exact OwnA.cons (A := []) (.f (by rw [hf a (List.mem_append_left _ (List.mem_cons_self ..))]; exact ha1) hn q) (k G' sg (fun b h => hf b (List.mem_append_right _ h)) ha)
      | s _ hno =>
        refine ⟨A1 ++ Fz, Dr, A', ?_, fun G' sg hf ha => ?_⟩
        · rw [List.append_assoc]; exact List.Perm.append_left A1 p
        · obtain ⟨x, hx, q⟩ := own_frz h1 sg (fun a h => hf a (List.mem_append_left _ h)) hno
          subst hx
          exact OwnA.cons (A := []) (.s q) (k G' sg (fun a h => hf a (List.mem_append_right _ h)) ha)
theorem stt_le {m m' : List Ty} (l : LeM m m') {e : En} {σ : St} {A : List Addr} (st : Stt K m G H σ e A) : ∃ G' A', Step A G H A' G' H ∧ Stt K m' G' H σ e A' := by
  obtain ⟨Fz, Dr, A', p, k⟩ := ownA_le l st.own
  have nd := p.nodup_iff.mp st.nd
  have inA : ∀ a, a ∈ Fz → a ∈ A := fun a h => p.mem_iff.mpr (List.mem_append_left _ h)
  have inA' : ∀ a, a ∈ A' → a ∈ A := fun a h => p.mem_iff.mpr (List.mem_append_right _ (List.mem_append_right _ h))
  have sg : Same G (lay G H Fz) := fun b x hx => by
    by_cases q : b ∈ Fz
    · rw [(ownA_at st.own b (inA b q)).1] at hx; cases hx
    · rw [lay_out q]; exact hx
  have dis : ∀ a ∈ A', a ∉ Fz := fun a ha hb => (List.nodup_append.mp nd).2.2 a hb a (List.mem_append_right _ ha) rfl
  refine ⟨lay G H Fz, A', ⟨sg, fun a o h _ => h, fun a ha => .inl (inA' a ha), fun a h1 ⟨o, h2⟩ => ?_⟩, ⟨k _ sg (fun a ha => lay_in ha) fun a ha => ?_, (List.nodup_append.mp (List.nodup_append.mp nd).2.1).2.1, fun b x hx => ?_⟩⟩
  · by_cases q : a ∈ Fz
    · exact .inl (inA a q)
    · rw [lay_out q, h1] at h2; cases h2
  · rw [lay_out (dis a ha)]; exact (ownA_at st.own a (inA' a ha)).1
  · by_cases q : b ∈ Fz
    · rw [lay_in q] at hx; exact hx
    · rw [lay_out q] at hx; exact st.sub b x hx
end
abbrev DFn := List PyData → Option (PyData × List PyData)
def spD (K : PySem.W.Frag) (ptys : List Ty) (rty : Ty) (Fn : DFn) : Sp := fun vs H Q _ =>
  ∃ (ds : List PyData) (d : PyData) (fs : List PyData) (G : Hp) (A : List Addr), Fn ds = some (d, fs) ∧ OwnA K G H ptys ds (vs.map some) A ∧ A.Nodup ∧ Same G H ∧
    ∀ (G' H' : Hp) (v : V) (Av A' : List Addr), Step A G H (Av ++ A') G' H' → OwnA K G' H' ptys fs (vs.map some) A' → Own K G' H' rty d (some v) Av → (Av ++ A').Nodup → Same G' H' → Q v H'
structure FnG (P : Program) (w : World) (K : PySem.W.Frag) (mg : Str → Option Value) (base : Heap) (k : Nat) (f : Addr) (fd : FuncData) (ps : List Str) (sp : Sp) : Prop where
  len : ∀ vs H Q E, sp vs H Q E → vs.length = ps.length
  run : ∀ (A : Around) (outer : List Env) (s : Shared) (H : Hp) (args : Args) (us : List Value) (vs : List V) (Q : VK) (E : XK), Room k A → A.guards = some [] → Env0 P w K mg base A outer s H → BindsTo s fd args (ps.zip us) → Vals vs us → sp vs H Q E →
    codeAny (model P w) A (.call (.ref f) args) (CR CX0 outer P w H s Q E) s
structure CalG (P : Program) (w : World) (K : PySem.W.Frag) (mg : Str → Option Value) (base : Heap) (k : Nat) (x : Str) (ptys : List Ty) (rty : Ty) (Fn : DFn) : Prop where
  ex : ∃ (f : Addr) (fd : FuncData) (ps : List Str), FnG P w K mg base k f fd ps (spD K ptys rty Fn) ∧ mg x = some (.ref f) ∧ PySem.W.keepIn K (.ref f) = true ∧ Binds K fd ps []
class FamG {ι : Type} (Xf : ι → Cx) : Prop where
  gd : ∀ i, (Xf i).A.guards = some []
  calm : ∀ i, (Xf i).calm = true
  hd : ∀ i, (Xf i).A.handled = none
theorem rmOf {ι : Type} {Xf : ι → Cx} {P : Program} {w : World} {K : PySem.W.Frag} {mg : Str → Option Value} {base : Heap} {n : Nat} (F : Fam Xf P w K mg base n) (FG : FamG Xf) (i : ι) : Room n (Xf i).A := ⟨FG.hd i, (F.room i).dp, (F.room i).un⟩
theorem fnG_of {P : Program} {w : World} {K : PySem.W.Frag} {mg : Str → Option Value} {base : Heap} {x qual : Str} {st : Stmt} {f : Addr} {fd : FuncData} {N ps : List Str} {k : Nat} {sp : Sp} (F : L2.Fun K x qual st f fd) (S : FnScope N ps (defScope st)) (len : ∀ vs H Q E, sp vs H Q E → vs.length = ps.length)
    (hbody : ∀ (cdv : Value) (A : Around) (outer : List Env) (s : Shared) (H : Hp) (vs : List V) (Q : VK) (E : XK), Room k (A.deeper (PyProof.Rows.envOfC qual (defScope st) s.heap.objs.size f cdv)) → (A.deeper (PyProof.Rows.envOfC qual (defScope st) s.heap.objs.size f cdv)).guards = some [] → sp vs H Q E →
      ∃ t, PSs (cxOf CX0 P w K mg base N qual (defScope st) f cdv A outer s H E).nox (defBody st) t ∧ t { nx := fun _ H' => Q .non H', rt := Q } (start N vs) H) : FnG P w K mg base (k + 1) f fd ps sp := by
  obtain ⟨oc, od, kV, doc, pm, an, cdv, ct, osl, rfl, lk, hcd⟩ := F.ex
  refine ⟨len, fun A outer s H args us vs Q E room gd e0 bind rel wish => ?_⟩
  have KX : K.In s.heap := e0.mod.kin.keeps fun b o e => (e0.bs b o e).1
  obtain ⟨t, bt, bq⟩ := hbody cdv A outer s H vs Q E (room.deeper _) gd wish
  have kinds : ∀ y ∈ ps.zip us, (defScope st).names.lookup y.1 = some .local ∨ ((defScope st).names.lookup y.1 = some .cell ∧ ((cellsFrom (s.heap.objs.size + 1) (defScope st).names []).lookup y.1).isSome = true) := by
    rintro ⟨nm, val⟩ hy
    have hp := S.par nm (List.of_mem_zip hy).1
    exact hp.imp id fun c => ⟨c, PySem.W.cellsFrom_some _ _ _ (.inl c)⟩
  refine codeAny_call_function room.depth (KX _ _ lk) rfl S.co S.gen rfl (PySem.W.codeRec_of KX hcd) (bind _ _ _ _ ?_)
  refine wpAny_newFunctionEnv_cells S.kind kinds fun env he s1 ic => ?_
  subst he
  have lim := e0.mod.nolimit.keeps fun b o e => (e0.bs b o e).1
  refine ⟨Heap.NoLimit.keeps lim ic.toInCall.keep, codeAny_func ?_⟩
  have I0 := inv_start (CX := CX0) (E := E) S room.hd e0 (len _ _ _ _ wish) rel ic
  refine wpAny_mono (bt.nox.run [] s1 _ H _ I0 bq) ?_ fun e s' z => z
  intro fl s' z
  cases fl with
  | ret u => obtain ⟨v, σ', H', J, rv, q⟩ := z; exact ⟨v, H', J.os, J.bare, J.base, J.hok, rv, q⟩
  | next => obtain ⟨σ', H', J, q⟩ := z; exact ⟨V.non, H', J.os, J.bare, J.base, J.hok, rfl, q⟩
  | brk => obtain ⟨_, _, _, q⟩ := z; exact q.elim
  | cont => obtain ⟨_, _, _, q⟩ := z; exact q.elim
def eCall (Fn : DFn) (r : Lf) : Ef := fun e => (r e).bind fun p => (Fn p.1).bind fun q => some (q.1, p.2)
def eCallL (Fn : DFn) (k j : Nat) (r : Lf) : Ef := fun e => (r e).bind fun p => (Fn (p.1.set k (p.2.getD j .none))).bind fun q => some (q.1, p.2.set j (q.2.getD k .none))
section
variable {ι : Type} {Xf : ι → Cx} {P : Program} {w : World} {K : PySem.W.Frag} {mg : Str → Option Value} {base : Heap} {n : Nat} [F : Fam Xf P w K mg base n] [FG : FamG Xf]
variable {m m1 m2 m3 : List Ty} {pos p p2 : Pos} {a b c : Expr} {es : List Expr} {f g h : Ef} {fr : Lf} {ty : Ty} {tys : List Ty} {L : List (Option Nat)}
theorem run_fnG {X : Cx} {k : Nat} {fa : Addr} {fd : FuncData} {ps : List Str} {sp : Sp} {pins : List (Addr × Obj)} {σ : St} {H : Hp} {s : Shared} {Q : VK} {E : XK} {us : List Value} {vs : List V} (Fn : FnG X.prog X.w X.K X.mg X.base k fa fd ps sp) (hr : Room k X.A) (hg : X.A.guards = some []) (hb : Binds X.K fd ps [])
    (I : L2.Inv X pins σ H s) (r : Vals vs us) (h : sp vs H Q E) : wpAny (model X.prog X.w) X.A (call (.ref fa) us) (EP X pins σ Q) X.xe s := by
  have hl : (us ++ []).length = ps.length := by rw [List.append_nil, ← r.length]; exact Fn.len _ _ _ _ h
  have hb' := hb s us I.kIn hl
  rw [List.append_nil] at hb'
  refine wpAny_call (codeAny_mono (Fn.run X.A X.stack s H ⟨us, []⟩ us vs Q E hr hg I.env0 hb' r h) ?_)
  intro z s' hq
  match z, hq with
  | .ok (.ret u), hq => exact I.after hq
  | .error e, hq => exact False.elim hq
  | .ok .next, hq => exact False.elim hq
  | .ok .brk, hq => exact False.elim hq
  | .ok .cont, hq => exact False.elim hq
def tCallG (sp : Sp) (t : TA) : TE := fun σ H Q => t σ H fun vs H1 => sp vs H1 Q fun _ _ _ => False
include F FG in
theorem pe_callG {k : Nat} {x : Str} {rty : Ty} {Fn : DFn} (c : CalG P w K mg base k x tys rty Fn) (hk : k ≤ n) (i : ι) {t : TA} (hg : Gl (Xf i) x) (ha : PA (Xf i) (a :: es) t)
    (hdb : (x == ("__debug__" : Str)) = false := by decide) (he : starEach (a :: es) (Xf i).env = (false, eval a (Xf i).env) :: starEach es (Xf i).env := by rfl) (hpl : (backTo pos (starEach es (Xf i).env)).any (·.1) = false := by rfl) :
    PE (Xf i) (.Call (.Name x p) (a :: es) [] pos) (tCallG (spD K tys rty Fn) t) := by
  obtain ⟨fa, fd, ps, FN, hm, kp, b⟩ := c.ex
  have e1 := F.prog i
  have e2 := F.w_ i
  have e3 := F.kk i
  have e4 := F.mg_ i
  have e5 := F.base_ i
  refine ⟨fun pins s σ H Q I h => ?_⟩
  refine wpAny_Call_Name_kw (ld_glob I hg (by rw [e4]; exact hm) ?_ hdb)
  refine PySem.W.callWith_K (h₀ := (Xf i).base) I.ok.mod.kin (by rw [e3]; exact kp) (thn (ha.run pos pins s σ H _ I h) fun us s1 ⟨vs, H1, I1, r1, q1⟩ => ⟨I1.kIn, ?_⟩) he hpl
  subst e1 e2 e3 e4 e5
  exact run_fnG FN ((rmOf F FG i).mono hk) (FG.gd i) b I1 r1 q1
include F FG in
theorem pd_call {k : Nat} {x : Str} {rty : Ty} {Fn : DFn} (c : CalG P w K mg base k x tys rty Fn) (ha : PAL Xf K m (a :: es) tys L fr m1) (hk : k ≤ n := by decide) (hg : ∀ i, Gl (Xf i) x := by intro _; rfl)
    (hdb : (x == ("__debug__" : Str)) = false := by decide) (he : ∀ i, starEach (a :: es) (Xf i).env = (false, eval a (Xf i).env) :: starEach es (Xf i).env := by intro _; rfl) (hpl : ∀ i, (backTo pos (starEach es (Xf i).env)).any (·.1) = false := by intro _; rfl) :
    PD Xf K m (.Call (.Name x p) (a :: es) [] pos) rty (eCall Fn fr) m1 := by
  obtain ⟨ta, pa, da⟩ := ha.ex
  refine ⟨_, fun i => pe_callG c hk i (hg i) (pa i) hdb (he i) (hpl i), fun {G H σ e A d e' Q} st hf k' => ?_⟩
  unfold eCall at hf
  obtain ⟨⟨ds, e1⟩, hf1, hf⟩ := oBs hf
  obtain ⟨⟨d1, fs⟩, hf2, hf⟩ := oBs hf
  cases hf
  refine da st hf1 fun G1 H1 vs A1 B1 s1 st1 o1 nd1 _ => ?_
  have nd := List.nodup_append.mp nd1
  refine ⟨ds, _, fs, G1, A1, hf2, o1, nd.1, st1.sub, fun G2 H2 v Av A2 s2 o2 ov nd2 sub2 => ?_⟩
  -- the state's own objects are kept aside
  have nd1' : (B1 ++ A1).Nodup := List.nodup_append.mpr ⟨nd.2.1, nd.1, fun a ha b hb z => nd.2.2 b hb a ha z.symm⟩
  have s1' : Step A G H (B1 ++ A1) G1 H1 := ⟨s1.sg, s1.fr, fun a ha => s1.own a ((List.mem_append.mp ha).elim (fun z => List.mem_append_right _ z) fun z => List.mem_append_left _ z), s1.gnew⟩
  obtain ⟨s3, nd3, hg', hh'⟩ := s1'.seq (ownA_at st1.own) nd1' s2 nd2
  have n3 := List.nodup_append.mp nd3
  have n4 := List.nodup_append.mp n3.2.1
  have st2 : Stt K m1 G2 H2 σ e1 B1 := ⟨ownA_fr st1.own s2.sg hg' hh', st1.nd, sub2⟩
  refine k' G2 H2 v Av B1 (s3.less fun a ha => ?_) st2 ov ?_
  · rcases List.mem_append.mp ha with z | z
    · exact List.mem_append_right _ (List.mem_append_left _ z)
    · exact List.mem_append_left _ z
  · exact List.nodup_append.mpr ⟨n4.1, n3.1, fun a ha b hb z => n3.2.2 b hb a (List.mem_append_left _ ha) z.symm⟩
include F FG in
theorem pd_callL {k kk j : Nat} {x : Str} {rty t : Ty} {Fn : DFn} (c : CalG P w K mg base k x tys rty Fn) {tys' : List Ty} (ha : PAL Xf K m (a :: es) tys' L fr m1) (hm : m1[j]? = some t := by rfl) (hL : L[kk]? = some (some j) := by rfl) (hu : tys'[kk]? = some .u := by rfl) (ht : tys'.set kk t = tys := by rfl)
    (hk : k ≤ n := by decide) (hg : ∀ i, Gl (Xf i) x := by intro _; rfl)
    (hdb : (x == ("__debug__" : Str)) = false := by decide) (he : ∀ i, starEach (a :: es) (Xf i).env = (false, eval a (Xf i).env) :: starEach es (Xf i).env := by intro _; rfl) (hpl : ∀ i, (backTo pos (starEach es (Xf i).env)).any (·.1) = false := by intro _; rfl) :
    PD Xf K m (.Call (.Name x p) (a :: es) [] pos) rty (eCallL Fn kk j fr) m1 := by
  obtain ⟨ta, pa, da⟩ := ha.ex
  refine ⟨_, fun i => pe_callG c hk i (hg i) (pa i) hdb (he i) (hpl i), fun {G H σ e A d e' Q} st hf k' => ?_⟩
  unfold eCallL at hf
  obtain ⟨⟨ds, e1⟩, hf1, hf⟩ := oBs hf
  obtain ⟨⟨d1, fs⟩, hf2, hf⟩ := oBs hf
  cases hf
  refine da st hf1 fun G1 H1 vs A1 B1 s1 st1 o1 nd1 lk => ?_
  obtain ⟨dj, vj, Aj, B0, h1, h2, h3, h4, hp⟩ := ownA_take st1.own hm
  obtain ⟨v0, hv0, hs0⟩ := lk kk j hL
  have hvj : vj = some v0 := by rw [hs0] at h2; exact (Option.some.inj h2).symm
  subst hvj
  obtain ⟨A2, o2, p2⟩ := ownA_put o1 hu h3
  rw [ht] at o2
  have hvs : (vs.map some).set kk (some v0) = vs.map some := set_id (by rw [List.getElem?_map, hv0]; rfl)
  rw [hvs] at o2
  have ed : e1.getD j .none = dj := by rw [List.getD_eq_getElem?_getD, h1]; rfl
  rw [ed] at hf2
  have nd := List.nodup_append.mp nd1
  have ndB := List.nodup_append.mp (hp.nodup_iff.mp nd.2.1)
  -- what the callee holds; what is kept aside
  have pall : (A1 ++ B1).Perm (B0 ++ A2) := by
    refine (List.Perm.append_left A1 hp).trans ?_
    refine List.Perm.trans ?_ (List.Perm.append_left B0 p2.symm)
    rw [← List.append_assoc]
    refine List.perm_append_comm.trans (List.Perm.append_left B0 List.perm_append_comm)
  have nd2 : (B0 ++ A2).Nodup := pall.nodup_iff.mp nd1
  have n2 := List.nodup_append.mp nd2
  refine ⟨ds.set kk dj, _, fs, G1, A2, hf2, o2, n2.2.1, st1.sub, fun G2 H2 v Av A3 s2 o3 ov nd3 sub2 => ?_⟩
  have s1' : Step A G H (B0 ++ A2) G1 H1 := ⟨s1.sg, s1.fr, fun a ha => s1.own a (pall.mem_iff.mpr ha), s1.gnew⟩
  obtain ⟨s3, nd4, hg', hh'⟩ := s1'.seq (ownA_at h4) nd2 s2 nd3
  have n4 := List.nodup_append.mp nd4
  have n5 := List.nodup_append.mp n4.2.1
  have o0 := ownA_fr h4 s2.sg hg' hh'
  have hkk : tys[kk]? = some t := by
    rw [← ht]
    have := (List.getElem?_eq_some_iff.mp hu).1
    simp [this]
  obtain ⟨df, vf, Af, A4, g1, g2, g3, g4, gp⟩ := ownA_take o3 hkk
  have hvf : vf = some v0 := by rw [List.getElem?_map, hv0] at g2; exact (Option.some.inj g2).symm
  subst hvf
  have hj : (m1.set j .u)[j]? = some .u := by
    have := (List.getElem?_eq_some_iff.mp hm).1
    simp [this]
  obtain ⟨B2, o4, p4⟩ := ownA_put o0 hj g3
  rw [List.set_set, set_id hm, set_id h2] at o4
  have ef : fs.getD kk .none = df := by rw [List.getD_eq_getElem?_getD, g1]; rfl
  rw [ef] at k'
  have gn := List.nodup_append.mp (gp.nodup_iff.mp n5.2.1)
  have inA3 : ∀ a, a ∈ Af → a ∈ A3 := fun a h => gp.mem_iff.mpr (List.mem_append_left _ h)
  have ndB2 : B2.Nodup := p4.nodup_iff.mpr (List.nodup_append.mpr ⟨gn.1, n4.1, fun a ha b hb z => n4.2.2 b hb a (List.mem_append_right _ (inA3 a ha)) z.symm⟩)
  have inB2 : ∀ a, a ∈ B2 → a ∈ Af ∨ a ∈ B0 := fun a h => List.mem_append.mp (p4.mem_iff.mp h)
  have st2 : Stt K m1 G2 H2 σ (e1.set j df) B2 := ⟨o4, ndB2, sub2⟩
  refine k' G2 H2 v Av B2 (s3.less fun a ha => ?_) st2 ov ?_
  · rcases List.mem_append.mp ha with z | z
    · exact List.mem_append_right _ (List.mem_append_left _ z)
    · rcases inB2 a z with z | z
      · exact List.mem_append_right _ (List.mem_append_right _ (inA3 a z))
      · exact List.mem_append_left _ z
  · refine List.nodup_append.mpr ⟨n5.1, ndB2, fun a ha b hb z => ?_⟩
    subst z
    rcases inB2 a hb with z | z
    · exact n5.2.2 a ha a (inA3 a z) rfl
    · exact n4.2.2 a z a (List.mem_append_left _ ha) rfl
end
end DL
namespace DL
open PySem L2 PySem.Spec
theorem bt_len : bootBuiltins "len" = some (.builtin "len") := by decide +kernel
theorem bt_abs : bootBuiltins "abs" = some (.builtin "abs") := by decide +kernel
theorem bt_repr : bootBuiltins "repr" = some (.builtin "repr") := by decide +kernel
theorem bt_isinstance : bootBuiltins "isinstance" = some (.builtin "isinstance") := by decide +kernel
def gLen : PyData → Option PyData
  | .list xs => some (.int xs.length)
  | .tuple xs => some (.int xs.length)
  | .str z => some (.int z.length)
  | _ => none
def gTuple : PyData → Option PyData
  | .list xs => some (.tuple xs)
  | .tuple xs => some (.tuple xs)
  | _ => none
def gList : PyData → Option PyData
  | .list xs => some (.list xs)
  | .tuple xs => some (.list xs)
  | _ => none
def intsOf : List PyData → Option (List Int)
  | [] => some []
  | .int i :: r => (intsOf r).map (i :: ·)
  | _ :: _ => none
def gAbs : PyData → Option PyData
  | .int i => some (.int (if i < 0 then -i else i))
  | _ => none
def sortOk (xs : List PyData) : Bool := xs.all (fun x => xs.all fun y => PySem.W.alike x y) && (xs.all (fun x => match x with | .tuple (_ :: _) => true | _ => false) || xs.all (fun x => match x with | .none => false | .tuple _ => false | _ => true)) && decide (PyData.depthAll xs ≤ 60)
def gSorted : PyData → Option PyData
  | .list xs => if sortOk xs = true then some (.list (xs.mergeSort (PySem.W.dataLe false id))) else none
  | .tuple xs => if sortOk xs = true then some (.list (xs.mergeSort (PySem.W.dataLe false id))) else none
  | _ => none
def gRepr (d : PyData) : Option PyData := if d.showable = true ∧ d.depth ≤ 58 ∧ d.shown.length ≤ sizeLine then some (.str d.shown) else none
section
variable {ι : Type} {Xf : ι → Cx} {P : Program} {w : World} {K : PySem.W.Frag} {mg : Str → Option Value} {base : Heap} {n : Nat} [F : Fam Xf P w K mg base n]
include F
theorem pd_b1 {m m1 : List Ty} {pos p : Pos} {a : Expr} {f : Ef} {x : Str} {id : String} {ty : Ty} {gg : PyData → Option PyData} (hc : Cl1 Xf K (.builtin id) ty gg) (hm : mg x = none) (hv : bootBuiltins x = some (.builtin id)) (ha : PD Xf K m a .s f m1) (hg : ∀ i, Gl (Xf i) x := by intro _; rfl)
    (hn : x ≠ "__name__" := by decide) (hdb : (x == ("__debug__" : Str)) = false := by decide) (he : ∀ i, starEach [a] (Xf i).env = (false, eval a (Xf i).env) :: starEach [] (Xf i).env := by intro _; rfl) (hpl : ∀ i, (backTo pos (starEach [] (Xf i).env)).any (·.1) = false := by intro _; rfl) :
    PD Xf K m (.Call (.Name x p) [a] [] pos) ty (e1 gg f) m1 := by
  obtain ⟨r, hr, dr⟩ := hc.ex
  obtain ⟨ta, pa, da⟩ := ha.ex
  exact ⟨_, fun i => pe_callB (hr i) (hg i) (by rw [F.mg_ i]; exact hm) hv (pa_cons (pa i) pa_nil (he i)) hn hdb (he i) (hpl i), DE.un da dr⟩
theorem kkC {r : PySem.W.Frag → List V → Hp → VK → Prop} {f : Value} (h : ∀ X : Cx, CallR X f (r X.K)) (i : ι) : CallR (Xf i) f (r K) := by
  have := h (Xf i)
  rw [F.kk i] at this
  exact this
theorem clLen : Cl1 Xf K (.builtin "len") .s gLen := by
  refine ⟨_, fun i => CallR.or (kkC (r := fun K xs H Q => ∃ p ys, xs = [.ref p] ∧ (SqL K H p ys ∨ SqT K H p ys) ∧ Q (.int ys.length) H) (fun X => call_len_seq) i) call_len_str, fun {m G H σ e A x dx d Q} st hx ee k => ?_⟩
  cases dx with
  | list ds =>
    cases ee
    obtain ⟨a, xs, rfl, r1, z1, q1⟩ := dq_lst hx
    exact .inl ⟨a, xs, rfl, .inl (.inl (same_rd st.sub r1)), by rw [q1.1]; exact ans_s st (.int _) k⟩
  | tuple ds =>
    cases ee
    obtain ⟨a, xs, rfl, r1, z1, q1⟩ := dq_tup hx
    exact .inl ⟨a, xs, rfl, .inr (same_seqT st.sub r1), by rw [q1.1]; exact ans_s st (.int _) k⟩
  | str z =>
    cases ee
    obtain ⟨rfl, z1⟩ := dq_str hx
    exact .inr ⟨_, rfl, z1, ans_s st (.int _) k⟩
  | _ => cases ee
theorem clAbs : Cl1 Xf K (.builtin "abs") .s gAbs := ⟨_, fun i => call_abs, fun {m G H σ e A x dx d Q} st hx ee k => by
  cases dx with
  | int i =>
    cases ee
    obtain rfl := dq_int hx
    exact ⟨i, rfl, ans_s st (.int _) k⟩
  | _ => cases ee⟩
end
end DL
namespace DL
open PySem L2 PySem.Spec
end DL
namespace DL
open PySem L2 PySem.Spec
theorem PI.or {X : Cx} {tg iter : Expr} {w1 w2 : TI} (h1 : PI X tg iter w1) (h2 : PI X tg iter w2) : PI X tg iter (fun σ H R => w1 σ H R ∨ w2 σ H R) :=
  ⟨fun pins s σ H R I h => h.elim (h1.run pins s σ H R I) (h2.run pins s σ H R I)⟩
def DqW (wk : Bool) (K : PySem.W.Frag) (G : Hp) (x : V) (d : PyData) : Prop := Dq K G x d ∨ (wk = true ∧ ∃ (a : Addr) (xs : List V) (ds : List PyData), x = .ref a ∧ d = .tuple ds ∧ SqT K G a xs ∧ DqA K G xs ds)
theorem DqW.strong {K : PySem.W.Frag} {G : Hp} {x : V} {d : PyData} (h : DqW false K G x d) : Dq K G x d := by
  rcases h with h | ⟨h, _⟩
  · exact h
  · cases h
theorem dqW_tup {wk : Bool} {K : PySem.W.Frag} {G : Hp} {x : V} {ds : List PyData} (h : DqW wk K G x (.tuple ds)) : ∃ a xs, x = .ref a ∧ SqT K G a xs ∧ DqA K G xs ds := by
  rcases h with h | ⟨_, a, xs, ds', h1, h2, h3, h4⟩
  · obtain ⟨a, xs, h1, h2, _, h3⟩ := dq_tup h
    exact ⟨a, xs, h1, h2, h3⟩
  · cases h2
    exact ⟨a, xs, h1, h3, h4⟩
structure WalkS (K : PySem.W.Frag) (G0 : Hp) (J : It) (ds : List PyData) : Prop where
  goes : ∀ i H, i < ds.length → Same G0 H → J.go i H
  stops : ∀ H, Same G0 H → J.stop ds.length H
  yields : ∀ {i : Nat} {H : Hp} {x : V} {H' : Hp} {m : List Ty} {G : Hp} {σ : St} {e : En} {A : List Addr}, i < ds.length → Same G0 G → Stt K m G H σ e A → J.yld i H x H' →
    ∃ G', Step A G H A G' H' ∧ Stt K m G' H' σ e A ∧ Same G G' ∧ ∀ d, ds[i]? = some d → Dq K G' x d
structure WalkD (K : PySem.W.Frag) (wk : Bool) (G0 : Hp) (J : It) (ds : List PyData) : Prop where
  goes : ∀ i H, i < ds.length → Same G0 H → J.go i H
  stops : ∀ H, Same G0 H → J.stop ds.length H
  yields : ∀ {i : Nat} {H : Hp} {x : V} {H' : Hp} {m : List Ty} {G : Hp} {σ : St} {e : En} {A : List Addr}, i < ds.length → Same G0 G → Stt K m G H σ e A → J.yld i H x H' →
    ∃ G', Step A G H A G' H' ∧ Stt K m G' H' σ e A ∧ Same G G' ∧ ∀ d, ds[i]? = some d → DqW wk K G' x d
theorem WalkS.d {wk : Bool} {K : PySem.W.Frag} {G0 : Hp} {J : It} {ds : List PyData} (h : WalkS K G0 J ds) : WalkD K wk G0 J ds :=
  ⟨h.goes, h.stops, fun hi s st y => by
    obtain ⟨G2, s2, st2, sg, k⟩ := h.yields hi s st y
    exact ⟨G2, s2, st2, sg, fun d hd => .inl (k d hd)⟩⟩
def DI (K : PySem.W.Frag) (wk : Bool) (m : List Ty) (wi : TI) (f : Lf) (m' : List Ty) : Prop :=
  ∀ {G H : Hp} {σ : St} {e : En} {A : List Addr} {ds : List PyData} {e' : En} {R : It → Hp → Prop}, Stt K m G H σ e A → f e = some (ds, e') →
    (∀ (G' H' : Hp) (A' : List Addr) (J : It), Step A G H A' G' H' → Stt K m' G' H' σ e' A' → WalkD K wk G' J ds → ds.length ≤ sizeLine → R J H') → wi σ H R
structure PIt {ι : Type} (Xf : ι → Cx) (K : PySem.W.Frag) (wk : Bool) (m : List Ty) (tg iter : Expr) (f : Lf) (m' : List Ty) : Prop where
  ex : ∃ wi : TI, (∀ i, PI (Xf i) tg iter wi) ∧ DI K wk m wi f m'
section
variable {K : PySem.W.Frag} {G H : Hp} {m : List Ty} {σ : St} {e : En} {A : List Addr}
theorem walkD_list {a : Addr} {xs : List V} {ds : List PyData} (hr : Rd G a (.lst xs)) (q : DqA K G xs ds) : WalkS K G (Itl K a) ds := by
  have l := q.1
  refine ⟨fun i H hi s => ⟨xs, xs[i]'(by omega), .inl (same_rd s hr), List.getElem?_eq_getElem (by omega)⟩, fun H s => ⟨xs, .inl (same_rd s hr), by omega⟩, fun {i H x H' m G' σ e A} hi s st y => ?_⟩
  obtain ⟨rfl, y⟩ := y
  refine ⟨G', Step.refl, st, Same.refl _, fun d hd => ?_⟩
  have hx := y xs (.inl (same_rd (s.trans st.sub) hr))
  exact (q.2 i x d hx hd).mono s
theorem walkD_tup {a : Addr} {xs : List V} {ds : List PyData} (hr : SqT K G a xs) (q : DqA K G xs ds) : WalkS K G (Itt K a) ds := by
  have l := q.1
  refine ⟨fun i H hi s => ⟨xs, xs[i]'(by omega), same_seqT s hr, List.getElem?_eq_getElem (by omega)⟩, fun H s => ⟨xs, same_seqT s hr, by omega⟩, fun {i H x H' m G' σ e A} hi s st y => ?_⟩
  obtain ⟨rfl, y⟩ := y
  refine ⟨G', Step.refl, st, Same.refl _, fun d hd => ?_⟩
  have hx := y xs (same_seqT (s.trans st.sub) hr)
  exact (q.2 i x d hx hd).mono s
def rngD (lo : Int) (n : Nat) : List PyData := (List.range n).map fun i => .int (lo + (i : Nat))
theorem rngD_len (lo : Int) (n : Nat) : (rngD lo n).length = n := by simp [rngD]
theorem walkD_range {lo : Int} {n : Nat} : WalkS K G (Itr lo n) (rngD lo n) := by
  refine ⟨fun i H hi _ => by rw [rngD_len] at hi; exact hi, fun H _ => by rw [rngD_len]; exact Nat.le_refl n, fun {i H x H' m G' σ e A} hi s st y => ?_⟩
  obtain ⟨rfl, rfl⟩ := y
  refine ⟨G', Step.refl, st, Same.refl _, fun d hd => ?_⟩
  rw [rngD_len] at hi
  unfold rngD at hd
  rw [List.getElem?_map, List.getElem?_range hi] at hd
  cases hd
  exact .int _
def enumD : Nat → List PyData → List PyData
  | _, [] => []
  | k, d :: r => .tuple [.int (k : Nat), d] :: enumD (k + 1) r
def zipD : List PyData → List PyData → List PyData
  | a :: as, b :: bs => .tuple [a, b] :: zipD as bs
  | _, _ => []
end
def seqD : PyData → Option (List PyData)
  | .list xs => some xs
  | .tuple xs => some xs
  | _ => none
def iSeq (f : Ef) : Lf := fun e => (f e).bind fun p => (seqD p.1).bind fun ds => some (ds, p.2)
def iEn (f : Ef) : Lf := fun e => (f e).bind fun p => (seqD p.1).bind fun ds => some (enumD 0 ds, p.2)
def zipS : PyData → PyData → Option (List PyData)
  | .list xs, .list ys => some (zipD xs ys)
  | .tuple xs, .tuple ys => some (zipD xs ys)
  | _, _ => none
def iZp (f g : Ef) : Lf := fun e => (f e).bind fun p => (g p.2).bind fun q => (zipS p.1 q.1).bind fun ds => some (ds, q.2)
def rng1 : PyData → Option (List PyData)
  | .int j => if j.toNat ≤ sizeLine ∧ -(2 ^ 62) ≤ j ∧ j < 2 ^ 62 then some (rngD 0 j.toNat) else none
  | _ => none
def rng2 : PyData → PyData → Option (List PyData)
  | .int i, .int j => if (j - i).toNat ≤ sizeLine ∧ -(2 ^ 62) ≤ i ∧ i < 2 ^ 62 ∧ -(2 ^ 62) ≤ j ∧ j < 2 ^ 62 then some (rngD i (j - i).toNat) else none
  | _, _ => none
def iR1 (f : Ef) : Lf := fun e => (f e).bind fun p => (rng1 p.1).bind fun ds => some (ds, p.2)
def iR2 (f g : Ef) : Lf := fun e => (f e).bind fun p => (g p.2).bind fun q => (rng2 p.1 q.1).bind fun ds => some (ds, q.2)
section
variable {ι : Type} {Xf : ι → Cx} {P : Program} {w : World} {K : PySem.W.Frag} {mg : Str → Option Value} {base : Heap} {n : Nat} [F : Fam Xf P w K mg base n]
variable {m m1 m2 m3 : List Ty} {pos p p2 tpos : Pos} {a b c tg : Expr} {elts : List Expr} {kk : Nat} {f g h : Ef}
include F
theorem pi_seq (ha : PD Xf K m a .s f m1) : PIt Xf K false m tg a (iSeq f) m1 := by
  obtain ⟨ta, pa, da⟩ := ha.ex
  refine ⟨_, fun i => PI.or (by have := pi_list (tg := tg) (pa i); rw [F.kk i] at this; exact this) (by have := pi_tup (tg := tg) (pa i); rw [F.kk i] at this; exact this), fun {G H σ e A ds e' R} st hf k => ?_⟩
  unfold iSeq at hf
  obtain ⟨⟨d1, e1⟩, hf1, hf⟩ := oBs hf
  obtain ⟨ds1, hf2, hf⟩ := oBs hf
  cases hf
  cases d1 with
  | list xs =>
    cases hf2
    refine .inl (da st hf1 fun G1 H1 v1 A1 B1 s1 st1 o1 nd1 => ?_)
    cases o1 with
    | s q1 =>
      obtain ⟨a, vs, rfl, r1, z1, qq⟩ := dq_lst q1
      exact ⟨a, rfl, ⟨vs, .inl (same_rd st1.sub r1)⟩, k _ _ _ _ s1 st1 (walkD_list r1 qq).d (by rw [← qq.1]; exact z1)⟩
  | tuple xs =>
    cases hf2
    refine .inr (da st hf1 fun G1 H1 v1 A1 B1 s1 st1 o1 nd1 => ?_)
    cases o1 with
    | s q1 =>
      obtain ⟨a, vs, rfl, r1, z1, qq⟩ := dq_tup q1
      exact ⟨a, rfl, ⟨vs, same_seqT st1.sub r1⟩, k _ _ _ _ s1 st1 (walkD_tup r1 qq).d (by rw [← qq.1]; exact z1)⟩
  | _ => cases hf2
theorem pi_r1 (hm : mg "range" = none) (ha : PD Xf K m a .s f m1) (hg : ∀ i, Gl (Xf i) "range" := by intro _; rfl) (hs : ∀ i, starEach [a] (Xf i).env = [(false, eval a (Xf i).env)] := by intro _; rfl) : PIt Xf K false m tg (.Call (.Name "range" p) [a] [] pos) (iR1 f) m1 := by
  obtain ⟨ta, pa, da⟩ := ha.ex
  refine ⟨_, fun i => pi_range1 (hg i) (by rw [F.mg_ i]; exact hm) (pa_cons (pa i) pa_nil (hs i)) (hs i), fun {G H σ e A ds e' R} st hf k => ?_⟩
  unfold iR1 at hf
  obtain ⟨⟨d1, e1⟩, hf1, hf⟩ := oBs hf
  obtain ⟨ds1, hf2, hf⟩ := oBs hf
  cases hf
  refine da st hf1 fun G1 H1 v1 A1 B1 s1 st1 o1 nd1 => ?_
  cases o1 with
  | s q1 =>
    cases d1 with
    | int j =>
      obtain ⟨hz, rfl⟩ := ite_some hf2
      replace hz := And.intro hz.2.1 (And.intro hz.2.2 hz.1)
      obtain rfl := dq_int q1
      exact ⟨j, rfl, hz.1, hz.2.1, k _ _ _ _ s1 st1 walkD_range.d (by rw [rngD_len]; exact hz.2.2)⟩
    | _ => cases hf2
end
end DL
namespace DL
open PySem L2 PySem.Spec
abbrev Gf := PyData → En → Option En
abbrev Gsf := List PyData → En → Option En
def DG (K : PySem.W.Frag) (wk : Bool) (m : List Ty) (g : TG) (sl : List Nat) (gf : Gf) (m' : List Ty) : Prop :=
  ∀ {G H : Hp} {σ : St} {e : En} {A : List Addr} {x : V} {d : PyData} {e' : En} {Q : St → Hp → Prop}, Stt K m G H σ e A → DqW wk K G x d → gf d e = some e' →
    (∀ (G' H' : Hp) (σ' : St) (A' : List Addr), Step A G H A' G' H' → Stt K m' G' H' σ' e' A' → (∀ j, j ∉ sl → σ'[j]? = σ[j]?) → σ'.length = σ.length → Q σ' H') → g x σ H Q
def DGs (K : PySem.W.Frag) (m : List Ty) (g : TGs) (sl : List Nat) (gf : Gsf) (m' : List Ty) : Prop :=
  ∀ {G H : Hp} {σ : St} {e : En} {A : List Addr} {xs : List V} {ds : List PyData} {e' : En} {Q : St → Hp → Prop}, Stt K m G H σ e A → DqA K G xs ds → gf ds e = some e' →
    (∀ (G' H' : Hp) (σ' : St) (A' : List Addr), Step A G H A' G' H' → Stt K m' G' H' σ' e' A' → (∀ j, j ∉ sl → σ'[j]? = σ[j]?) → σ'.length = σ.length → Q σ' H') → g xs σ H Q
structure PGD {ι : Type} (Xf : ι → Cx) (K : PySem.W.Frag) (wk : Bool) (m : List Ty) (tg : Expr) (sl : List Nat) (gf : Gf) (m' : List Ty) : Prop where
  ex : ∃ g : TG, (∀ i, PG (Xf i) tg g) ∧ DG K wk m g sl gf m'
structure PGDs {ι : Type} (Xf : ι → Cx) (K : PySem.W.Frag) (m : List Ty) (tgs : List Expr) (sl : List Nat) (gf : Gsf) (m' : List Ty) : Prop where
  ex : ∃ g : TGs, (∀ i, PGs (Xf i) tgs g) ∧ DGs K m g sl gf m'
def gNm (j : Nat) : Gf := fun d e => some (e.set j d)
def gsNil : Gsf := fun ds e => match ds with | [] => some e | _ => none
def gsCons (g : Gf) (r : Gsf) : Gsf := fun ds e => match ds with | d :: ds => (g d e).bind fun e' => r ds e' | [] => none
def gTp (k : Nat) (r : Gsf) : Gf := fun d e => match d with | .tuple ds => if ds.length = k then r ds e else none | _ => none
section
variable {K : PySem.W.Frag} {G H : Hp}
theorem stt_set {m : List Ty} {σ : St} {e : En} {A Av : List Addr} {j : Nat} {t : Ty} {d : PyData} {v : V} (st : Stt K m G H σ e A) (hj : j < m.length) (o : Own K G H t d (some v) Av) (nd : (Av ++ A).Nodup) :
    ∃ A', Stt K (m.set j t) G H (σ.set j (some v)) (e.set j d) A' ∧ ∀ a ∈ A', a ∈ Av ++ A := by
  obtain ⟨A0, h0, B, hp⟩ := ownA_hide st.own j
  obtain ⟨A', o', p'⟩ := ownA_put h0 (by rw [List.getElem?_set_self hj]) o
  rw [List.set_set] at o'
  have inA : ∀ a ∈ A0, a ∈ A := fun a h => hp.mem_iff.mpr (List.mem_append_right _ h)
  have n := List.nodup_append.mp nd
  have nA := List.nodup_append.mp (hp.nodup_iff.mp n.2.1)
  refine ⟨A', ⟨o', p'.nodup_iff.mpr (List.nodup_append.mpr ⟨n.1, nA.2.1, fun a ha b hb z => n.2.2 a ha b (inA b hb) z⟩), st.sub⟩, fun a ha => ?_⟩
  rcases List.mem_append.mp (p'.mem_iff.mp ha) with z | z
  · exact List.mem_append_left _ z
  · exact List.mem_append_right _ (inA a z)
end
section
variable {ι : Type} {Xf : ι → Cx} {P : Program} {w : World} {K : PySem.W.Frag} {mg : Str → Option Value} {base : Heap} {n : Nat} [F : Fam Xf P w K mg base n]
variable {m m1 m2 m3 : List Ty} {pos p p2 tpos : Pos} {a b c tg : Expr} {tgs : List Expr} {elts : List Expr} {kk : Nat} {sl sl2 : List Nat} {gf : Gf} {gs : Gsf}
include F in
theorem pg_nm (j : Nat) {x : Str} (hj : j < m.length := by first | decide | rfl | simp) (hi : ∀ i, (Xf i).N[j]? = some x := by intro _; rfl) (hx : ∀ i, Loc (Xf i).env.scope x := by first | (intro _; exact Or.inl rfl) | (intro _; exact Or.inr rfl))
    (hf : ∀ i, (Xf i).fn x = true ∨ (Xf i).env.scope.names.lookup x = some .local := by first | (intro _; exact Or.inl rfl) | (intro _; exact Or.inr rfl)) : PGD Xf K false m (.Name x pos) [j] (gNm j) (m.set j .s) := by
  refine ⟨gName j, fun i => pg_name (F.nd i) (hi i) (hx i) (hf i), fun {G H σ e A x d e' Q} st q hf k => ?_⟩
  cases hf
  obtain ⟨A', st', hA⟩ := stt_set st hj (.s q.strong) (Av := []) st.nd
  exact k G H _ A' ⟨Same.refl G, fun a o h _ => h, fun a ha => .inl (hA a ha), fun a h1 ⟨o, h2⟩ => by rw [h1] at h2; cases h2⟩ st' (fun i hi => by rw [List.getElem?_set_ne]; intro z; exact hi (by simp [z])) (by simp)
theorem pgs_nl : PGDs Xf K m [] [] gsNil m := by
  refine ⟨gNil, fun i => pgs_nil, fun {G H σ e A xs ds e' Q} st q hf k => ?_⟩
  unfold gsNil at hf
  cases ds with
  | nil =>
    cases hf
    exact ⟨List.length_eq_zero_iff.mp q.1, k G H σ A Step.refl st (fun _ _ => rfl) rfl⟩
  | cons _ _ => cases hf
theorem pgs_cn (h1 : PGD Xf K false m a sl gf m1) (h2 : PGDs Xf K m1 tgs sl2 gs m2) (hs : ∀ i, (assignEach (a :: tgs) (Xf i).env).map (·.snd) = assign a (Xf i).env :: (assignEach tgs (Xf i).env).map (·.snd) := by intro _; rfl) : PGDs Xf K m (a :: tgs) (sl ++ sl2) (gsCons gf gs) m2 := by
  obtain ⟨g1, p1, d1⟩ := h1.ex
  obtain ⟨g2, p2, d2⟩ := h2.ex
  refine ⟨gCons g1 g2, fun i => pgs_cons (p1 i) (p2 i) (hs i), fun {G H σ e A xs ds e' Q} st q hf k => ?_⟩
  cases ds with
  | nil => cases hf
  | cons d ds =>
    obtain ⟨e1, hf1, hf⟩ := oBs (show (gf d e).bind _ = _ from hf)
    cases xs with
    | nil => have := q.1; simp at this
    | cons v vs =>
      refine ⟨v, vs, rfl, d1 st (.inl q.head) hf1 fun G1 H1 σ1 A1 s1 st1 k1 l1 => d2 st1 (q.tail.mono s1.sg) hf fun G2 H2 σ2 A2 s2 st2 k2 l2 => k _ _ _ _ (s1.seq0 s2) st2 (fun j hj => ?_) (l2.trans l1)⟩
      rw [k2 j (fun z => hj (List.mem_append_right _ z)), k1 j (fun z => hj (List.mem_append_left _ z))]
include F in
theorem pg_tp {wk : Bool} {k : Nat} (h : PGDs Xf K m elts sl gs m1) (hk : elts.length = k := by rfl) {kk : Nat} (hpg : ∀ i {t : TGs}, PGs (Xf i) elts t → PG (Xf i) (.Tuple elts kk tpos) (gTup (Xf i).K k t) := by intro i t h; exact pg_tup (by rfl) h) : PGD Xf K wk m (.Tuple elts kk tpos) sl (gTp k gs) m1 := by
  obtain ⟨g, p, d⟩ := h.ex
  refine ⟨gTup K k g, fun i => by have := hpg i (p i); rw [F.kk i] at this; exact this, fun {G H σ e A x dd e' Q} st q hf kont => ?_⟩
  cases dd with
  | tuple ds =>
    have hf : (if ds.length = k then gs ds e else none) = some e' := hf
    split at hf
    · rename_i hl
      obtain ⟨a, xs, rfl, r1, qq⟩ := dqW_tup q
      exact ⟨a, xs, rfl, same_seqT st.sub r1, by rw [qq.1]; exact hl, d st qq hf kont⟩
    · cases hf
  | _ => cases hf
end
structure BI (ι : Type) where
  i : ι
  s : Shared
  H : Hp
  C : Addr
  cl : List (Str × Addr)
  fp : List Addr
def blkF {ι : Type} (Xf : ι → Cx) (scope : Scope) : BI ι → Cx := fun b => (Xf b.i).blk b.s b.H scope (compEnvC scope b.cl b.C (Xf b.i).env) b.fp
instance {ι : Type} {Xf : ι → Cx} {P : Program} {w : World} {K : PySem.W.Frag} {mg : Str → Option Value} {base : Heap} {n : Nat} [F : Fam Xf P w K mg base n] {scope : Scope} : Fam (blkF Xf scope) P w K mg base n :=
  ⟨fun b => F.prog b.i, fun b => F.w_ b.i, fun b => F.kk b.i, fun b => F.mg_ b.i, fun b => F.base_ b.i, fun b => F.room b.i, fun b => F.nd b.i⟩
instance {ι : Type} {Xf : ι → Cx} [F : FamG Xf] {scope : Scope} : FamG (blkF Xf scope) := ⟨fun b => F.gd b.i, fun b => F.calm b.i, fun b => F.hd b.i⟩
def hideM (m : List Ty) : List Nat → List Ty
  | [] => m
  | v :: vs => (hideM m vs).set v .u
def restE (e : En) (e' : En) : List Nat → En
  | [] => e'
  | v :: vs => restE e (e'.set v (e.getD v .none)) vs
def usB (m : List Ty) : List Nat → Bool
  | [] => true
  | v :: vs => (match m[v]? with | some .u => true | some .s => true | _ => false) && decide (v ∉ vs) && usB m vs
section
variable {K : PySem.W.Frag} {G H : Hp}
theorem ownA_set0 {ts : List Ty} {ds : List PyData} {vs : List (Option V)} {A : List Addr} (h : OwnA K G H ts ds vs A) {j : Nat} (hj : ts[j]? = some .u ∨ ts[j]? = some .s) {t : Ty} {d : PyData} {v : Option V} (o : Own K G H t d v []) :
    OwnA K G H (ts.set j t) (ds.set j d) (vs.set j v) A := by
  induction ts generalizing ds vs A j with
  | nil => cases h; simpa using OwnA.nil
  | cons t0 ts ih =>
    cases h with
    | @cons _ _ d0 ds v0 vs A B h1 h2 =>
      cases j with
      | zero =>
        have hA : A = [] := by
          rcases hj with hj | hj <;> (simp at hj; subst hj; cases h1; rfl)
        subst hA
        simpa using OwnA.cons o h2
      | succ j => simpa using OwnA.cons h1 (ih h2 (by simpa using hj))
theorem hideM_get {m : List Ty} {j : Nat} : ∀ {vs : List Nat}, j ∉ vs → (hideM m vs)[j]? = m[j]?
  | [], _ => rfl
  | v :: vs, h => by
    unfold hideM
    rw [List.getElem?_set_ne (fun z => h (by simp [z])), hideM_get fun z => h (List.mem_cons_of_mem _ z)]
theorem us_cons {m : List Ty} {v : Nat} {vs : List Nat} (h : usB m (v :: vs) = true) : (m[v]? = some .u ∨ m[v]? = some .s) ∧ v ∉ vs ∧ usB m vs = true := by
  unfold usB at h
  simp only [Bool.and_eq_true, decide_eq_true_eq] at h
  refine ⟨?_, h.1.2, h.2⟩
  have h1 := h.1.1
  split at h1 <;> simp_all
theorem wipeA {m : List Ty} {e : En} {σ : St} {A : List Addr} (h : OwnA K G H m e σ A) : ∀ {vs : List Nat}, usB m vs = true → OwnA K G H (hideM m vs) e (wipe σ vs) A
  | [], _ => h
  | v :: vs, us => by
    obtain ⟨h1, h2, h3⟩ := us_cons us
    have ih := wipeA h h3
    unfold hideM wipe
    have hv : (hideM m vs)[v]? = some .u ∨ (hideM m vs)[v]? = some .s := by rw [hideM_get h2]; exact h1
    have hl := ownA_len ih
    have hlt : v < e.length := by
      have : v < (hideM m vs).length := by rcases hv with z | z <;> exact (List.getElem?_eq_some_iff.mp z).1
      omega
    have := ownA_set0 (t := .u) (d := e[v]) (v := none) ih hv (.u _ _)
    rw [set_id (List.getElem?_eq_getElem hlt)] at this
    exact this
theorem unwipeA {m : List Ty} {e0 : En} {σ : St} {G0 : Hp} {A0 : List Addr} {H0 : Hp} (h0 : OwnA K G0 H0 m e0 σ A0) (sg : Same G0 G) : ∀ {vs : List Nat} {e' : En} {A : List Addr}, usB m vs = true → OwnA K G H (hideM m vs) e' (wipe σ vs) A → OwnA K G H m (restE e0 e' vs) σ A
  | [], _, _, _, h => h
  | v :: vs, e', A, us, h => by
    obtain ⟨h1, h2, h3⟩ := us_cons us
    unfold hideM wipe at h
    unfold restE
    have hv : (hideM m vs)[v]? = m[v]? := hideM_get h2
    obtain ⟨t, ht⟩ : ∃ t, m[v]? = some t := by rcases h1 with z | z <;> exact ⟨_, z⟩
    obtain ⟨d, x, Aj, B0, k1, k2, k3, _, _⟩ := ownA_take h0 ht
    have hA : Aj = [] := by
      rcases h1 with z | z <;> (rw [ht] at z; cases z; cases k3; rfl)
    subst hA
    have k3' : Own K G H t d x [] := by
      rcases h1 with z | z
      · rw [ht] at z; cases z; exact .u _ _
      · rw [ht] at z; cases z
        cases k3 with
        | s q => exact .s (q.mono sg)
    have hlv : v < (hideM m vs).length := by rw [← hv] at ht; exact (List.getElem?_eq_some_iff.mp ht).1
    have key := ownA_set0 h (j := v) (.inl (by simp [hlv])) k3'
    rw [List.set_set, set_id (by rw [hv]; exact ht), List.set_set] at key
    have ex : (wipe σ vs).set v x = wipe σ vs := by
      apply set_id
      rw [wipe_out h2]; exact k2
    rw [ex] at key
    have ed : e0.getD v .none = d := by rw [List.getD_eq_getElem?_getD, k1]; rfl
    rw [ed]
    exact unwipeA h0 sg h3 key
theorem ownA_snoc {ts : List Ty} {ds : List PyData} {vs : List (Option V)} {A : List Addr} (h : OwnA K G H ts ds vs A) {t : Ty} {d : PyData} {v : Option V} {B : List Addr} (o : Own K G H t d v B) : OwnA K G H (ts ++ [t]) (ds ++ [d]) (vs ++ [v]) (A ++ B) := by
  induction ts generalizing ds vs A with
  | nil => cases h; simpa using OwnA.cons o .nil
  | cons t0 ts ih =>
    cases h with
    | cons h1 h2 => rw [List.append_assoc]; exact .cons h1 (ih h2)
theorem wipe_in {σ : St} {j : Nat} : ∀ {vs : List Nat}, j ∈ vs → j < σ.length → (wipe σ vs)[j]? = some none
  | v :: vs, h, hl => by
    unfold wipe
    by_cases q : v = j
    · subst q; rw [List.getElem?_set_self (by rw [wipe_length]; exact hl)]
    · rw [List.getElem?_set_ne q]
      rcases List.mem_cons.mp h with z | z
      · exact absurd z.symm q
      · exact wipe_in z hl
theorem wipe_eq {σ σ2 : St} {vs sl : List Nat} (hs : ∀ j ∈ sl, j ∈ vs) (h : ∀ j, j ∉ sl → σ2[j]? = (wipe σ vs)[j]?) (hl : σ2.length = (wipe σ vs).length) : wipe σ2 vs = wipe σ vs := by
  apply List.ext_getElem?
  intro j
  rw [wipe_length] at hl
  by_cases hv : j ∈ vs
  · by_cases hj : j < σ.length
    · rw [wipe_in hv (by omega), wipe_in hv hj]
    · rw [List.getElem?_eq_none (by rw [wipe_length]; omega), List.getElem?_eq_none (by rw [wipe_length]; omega)]
  · rw [wipe_out hv, h j (fun z => hv (hs j z))]
end
def lcL (vs : List Nat) (gf : Gf) (tf : Bf) (ef : Ef) : List PyData → En → Option (List PyData × En)
  | [], e => some ([], e)
  | d :: ds, e => (gf d e).bind fun e1 => (tf e1).bind fun p => if p.1 = true then (ef p.2).bind fun q => (lcL vs gf tf ef ds (restE e q.2 vs)).bind fun r => some (q.1 :: r.1, r.2) else lcL vs gf tf ef ds (restE e p.2 vs)
def eLc (it : Lf) (vs : List Nat) (gf : Gf) (tf : Bf) (ef : Ef) : Ef := fun e => (it e).bind fun p => (lcL vs gf tf ef p.1 p.2).bind fun q => some (.list q.1, restE p.2 q.2 vs)
def bYes : Bf := fun e => some (true, e)
structure PTsD {ι : Type} (Xf : ι → Cx) (K : PySem.W.Frag) (m : List Ty) (ifs : List Expr) (f : Bf) : Prop where
  ex : ∃ tt : TT, (∀ i, PTs (Xf i) ifs tt) ∧ DT K m tt f m
theorem pts_no {ι : Type} {Xf : ι → Cx} {K : PySem.W.Frag} {m : List Ty} : PTsD Xf K m [] bYes := ⟨tYes, fun i => pts_nil, fun st hf k => by cases hf; exact k _ _ _ Step.refl st⟩
theorem pts_if {ι : Type} {Xf : ι → Cx} {K : PySem.W.Frag} {m : List Ty} {c : Expr} {f : Bf} (h : PB Xf K m c f m) : PTsD Xf K m [c] f := by
  obtain ⟨t, p, d⟩ := h.ex
  exact ⟨t, fun i => pts_one (p i), d⟩
structure LcI (K : PySem.W.Frag) (mh : List Ty) (ty : Ty) (A1 : List Addr) (G1 H1 : Hp) (D : Addr) (ws : St) (Gc Hc : Hp) (e : En) (A Aa : List Addr) (acc : List V) (da : List PyData) : Prop where
  step : Step A1 G1 H1 (D :: (Aa ++ A)) Gc Hc
  st : Stt K mh Gc Hc ws e A
  atD : Hc D = some (.lst acc)
  gD : Gc D = none
  own : OwnA K Gc Hc (List.replicate da.length ty) da (acc.map some) Aa
  nd : (D :: (Aa ++ A)).Nodup
section
variable {K : PySem.W.Frag} {mh m2 : List Ty} {ty : Ty} {A1 : List Addr} {G1 H1 : Hp} {D : Addr} {ws : St}
theorem LcI.move {Gc Hc : Hp} {e : En} {A Aa : List Addr} {acc : List V} {da : List PyData} (I : LcI K mh ty A1 G1 H1 D ws Gc Hc e A Aa acc da) {B : List Addr} {G2 H2 : Hp} (s : Step A Gc Hc B G2 H2) (ndB : B.Nodup) :
    Step A1 G1 H1 (D :: (Aa ++ B)) G2 H2 ∧ (D :: (Aa ++ B)).Nodup ∧ H2 D = some (.lst acc) ∧ G2 D = none ∧ OwnA K G2 H2 (List.replicate da.length ty) da (acc.map some) Aa := by
  have o1 : ∀ a ∈ D :: Aa, Gc a = none ∧ ∃ o, Hc a = some o := fun a ha => by
    rcases List.mem_cons.mp ha with rfl | ha
    · exact ⟨I.gD, _, I.atD⟩
    · exact ownA_at I.own a ha
  obtain ⟨s3, nd3, hg, hh⟩ := Step.seq (Av := D :: Aa) I.step o1 I.nd s ndB
  exact ⟨s3, nd3, by rw [hh D (List.mem_cons_self ..)]; exact I.atD, hg D (List.mem_cons_self ..), ownA_fr I.own s.sg (fun a ha => hg a (List.mem_cons_of_mem _ ha)) fun a ha => hh a (List.mem_cons_of_mem _ ha)⟩
end
section
variable {ι : Type} {Xf : ι → Cx} {P : Program} {w : World} {K : PySem.W.Frag} {mg : Str → Option Value} {base : Heap} {n : Nat} [F : Fam Xf P w K mg base n]
variable {m m1 m2 m3 : List Ty} {pos p p2 tpos : Pos} {elt iter tg : Expr} {ifs : List Expr} {scope : Scope} {own : List (Str × Nat)} {sl : List Nat} {gf : Gf} {it : Lf} {tf : Bf} {ef : Ef} {ty : Ty}
theorem DE.lc {wk : Bool} {wi : TI} {g : TG} {tt : TT} {te : TE} {vs : List Nat} (hi : DI K wk m wi it m1) (hg : DG K wk (hideM m1 vs) g sl gf m2) (ht : DT K m2 tt tf m2) (he : DE K m2 te ty ef m2) (us : usB m1 vs = true) (hs : ∀ j ∈ sl, j ∈ vs) (le : LeM m2 (hideM m1 vs)) :
    DE K m (tLc wi g tt te vs) (.l ty) (eLc it vs gf tf ef) m1 := by
  intro G H σ e A d e' Q st hf k
  unfold eLc at hf
  obtain ⟨⟨ds, e1⟩, hf1, hf⟩ := oBs hf
  obtain ⟨⟨rs, ef1⟩, hf2, hf⟩ := oBs hf
  cases hf
  refine hi st hf1 fun G1 H1 A1 J s1 st1 wk hz => ?_
  intro D hD
  have own1 := wipeA st1.own us
  have st1' : Stt K (hideM m1 vs) G1 H1 (wipe σ vs) e1 A1 := ⟨own1, st1.nd, st1.sub⟩
  obtain ⟨s2, st2, nd2, gD⟩ := new_o (o := .lst []) (B := []) st1' hD
  -- the word
  let T := fun (i : Nat) (Hc : Hp) => ∃ Gc ec A' Aa acc da r, LcI K (hideM m1 vs) ty A1 G1 H1 D (wipe σ vs) Gc Hc ec A' Aa acc da ∧ da.length ≤ i ∧ lcL vs gf tf ef (ds.drop i) ec = some (r, ef1) ∧ rs = da ++ r
  refine ⟨fun i mm Hc => mm = ds.length - i ∧ i ≤ ds.length ∧ T i Hc, ⟨ds.length, by omega, Nat.zero_le _, G1, e1, A1, [], [], [], rs, ⟨s2, st2, upd_same, gD, .nil, nd2⟩, Nat.le_refl _, hf2, rfl⟩, ?_⟩
  rintro i mm Hc ⟨rfl, hle, Gc, ec, A', Aa, acc, da, r, I, hda, hl, hrs⟩
  have sub1 : Same G1 Hc := I.step.sg.trans I.st.sub
  by_cases hi : i < ds.length
  · refine .inr ⟨wk.goes i Hc hi sub1, fun Hn => i < ds.length ∧ T (i + 1) Hn, fun Hn hn => ⟨ds.length - (i + 1), by omega, rfl, by omega, hn.2⟩, fun x Hy hy => ?_⟩
    obtain ⟨Gy, sy, sty, sgy, qy⟩ := wk.yields hi I.step.sg I.st hy
    have hd : ds.drop i = ds[i] :: ds.drop (i + 1) := List.drop_eq_getElem_cons hi
    rw [hd] at hl
    unfold lcL at hl
    obtain ⟨e2, hl1, hl⟩ := oBs hl
    obtain ⟨⟨b, e3⟩, hl2, hl⟩ := oBs hl
    refine hg sty (qy _ (List.getElem?_eq_getElem hi)) hl1 fun G3 H3 σ3 A3 s3 st3 k3 l3 => ⟨wipe_eq hs k3 l3, ?_⟩
    have wσ := wipe_eq hs k3 l3
    have usr : usB (hideM m1 vs) vs = true → True := fun _ => trivial
    refine ht st3 hl2 fun G4 H4 A4 s4 st4 => ?_
    have s34 := (sy.seq0 s3).seq0 s4
    -- the turn's end: the mask and the slots of the next turn
    have next : ∀ (G5 H5 : Hp) (A5 : List Addr) (e5 : En), Stt K m2 G5 H5 σ3 e5 A5 → ∃ G6 A6, Step A5 G5 H5 A6 G6 H5 ∧ Stt K (hideM m1 vs) G6 H5 (wipe σ vs) (restE ec e5 vs) A6 := fun G5 H5 A5 e5 st5 => by
      obtain ⟨G6, A6, s6, st6⟩ := stt_le le st5
      refine ⟨G6, A6, s6, ⟨?_, st6.nd, st6.sub⟩⟩
      have hidem : ∀ (us : List Nat) (e' : En) (σ' : St) {A : List Addr} {H : Hp} {G : Hp} {mm : List Ty}, OwnA K G H mm e' σ' A → (∀ v ∈ us, mm[v]? = some .u) → OwnA K G H mm (restE ec e' us) (wipe σ' us) A := by
        intro us
        induction us with
        | nil => intro e' σ' A H G mm h _; exact h
        | cons v us ih =>
          intro e' σ' A H G mm h hu
          unfold restE wipe
          have hv := hu v (List.mem_cons_self ..)
          have a := ownA_set0 (t := .u) (d := ec.getD v .none) (v := none) h (.inl hv) (.u _ _)
          rw [set_id hv] at a
          have b := ih _ _ a fun x hx => hu x (List.mem_cons_of_mem _ hx)
          -- wiping v first or last
          have c : wipe (σ'.set v none) us = (wipe σ' us).set v none := by
            clear ih a b hv hu h
            induction us with
            | nil => rfl
            | cons u us ihu =>
              unfold wipe
              rw [ihu]
              by_cases q : u = v
              · subst q; rfl
              · rw [List.set_comm _ _ (fun z => q z.symm)]
          rw [c] at b; exact b
      have hu : ∀ v ∈ vs, (hideM m1 vs)[v]? = some .u := by
        have aux : ∀ us : List Nat, usB m1 us = true → ∀ v ∈ us, (hideM m1 us)[v]? = some .u := by
          intro us
          induction us with
          | nil => intro _ v h; cases h
          | cons u us ih =>
            intro hus v hv
            obtain ⟨h1, h2, h3⟩ := us_cons hus
            unfold hideM
            by_cases q : u = v
            · subst q
              have : u < (hideM m1 us).length := by
                rw [← hideM_get (m := m1) h2] at h1
                rcases h1 with z | z <;> exact (List.getElem?_eq_some_iff.mp z).1
              simp [this]
            · rw [List.getElem?_set_ne q]
              rcases List.mem_cons.mp hv with z | z
              · exact absurd z.symm q
              · exact ih h3 v z
        exact aux vs us
      have := hidem vs e5 σ3 st6.own hu
      rw [wσ] at this
      exact this
    cases b with
    | true =>
      rw [if_pos rfl] at hl ⊢
      obtain ⟨⟨dy, e5⟩, hl3, hl⟩ := oBs hl
      obtain ⟨⟨r', ef'⟩, hl4, hl⟩ := oBs hl
      cases hl
      refine he st4 hl3 fun G5 H5 y Ay A5 s5 st5 o5 nd5 => ?_
      obtain ⟨G6, A6, s6, st6⟩ := next G5 H5 A5 e5 st5
      obtain ⟨s56, nd56, hg6, hh6⟩ := s5.seq (own_at o5) nd5 s6 st6.nd
      have o6 : Own K G6 H5 ty dy (some y) Ay := own_fr o5 s6.sg hg6 fun a ha => rfl
      obtain ⟨s7, nd7, atD, gD7, own7⟩ := I.move (s34.seq0 s56) nd56
      have hacc : acc.length = da.length := by have := (ownA_len I.own).2; simpa using this
      have hz' : acc.length < sizeLine := by
        omega
      refine ⟨acc, atD, hz', hi, G6, restE ec e5 vs, A6, Aa ++ Ay, acc ++ [y], da ++ [dy], r', ?_, by simp; omega, hl4, by rw [hrs]; simp⟩
      have nD : ∀ a ∈ Aa ++ (Ay ++ A6), a ≠ D := fun a ha z => (List.nodup_cons.mp nd7).1 (z ▸ ha)
      have frD : ∀ a, a ≠ D → upd H5 D (.lst (acc ++ [y])) a = H5 a := fun a ha => upd_ne ha
      refine ⟨⟨s7.sg, fun a o h ha => ?_, fun a ha => s7.own a (by simpa [List.append_assoc] using ha), s7.gnew⟩, ⟨ownA_fr st6.own (Same.refl _) (fun a ha => (ownA_at st6.own a ha).1) fun a ha => frD a (nD a (by simp [ha])), st6.nd, fun b x hx => ?_⟩, upd_same, gD7, ?_, by simpa [List.append_assoc] using nd7⟩
      · rw [frD a (ne_of_none h hD)]; exact s7.fr a o h ha
      · rw [frD b (ne_of_none hx gD7)]; exact st6.sub b x hx
      · have a1 : OwnA K G6 (upd H5 D (.lst (acc ++ [y]))) (List.replicate da.length ty) da (acc.map some) Aa := ownA_fr own7 (Same.refl _) (fun a ha => (ownA_at own7 a ha).1) fun a ha => frD a (nD a (by simp [ha]))
        have a2 : Own K G6 (upd H5 D (.lst (acc ++ [y]))) ty dy (some y) Ay := own_fr o6 (Same.refl _) hg6 fun a ha => frD a (nD a (by simp [ha]))
        have a3 := ownA_snoc a1 a2
        rw [List.length_append, List.length_singleton, List.replicate_succ', List.map_append]
        exact a3
    | false =>
      rw [if_neg (by simp)] at hl ⊢
      obtain ⟨G6, A6, s6, st6⟩ := next G4 H4 A4 e3 st4
      obtain ⟨s7, nd7, atD, gD7, own7⟩ := I.move (s34.seq0 s6) st6.nd
      exact ⟨hi, G6, restE ec e3 vs, A6, Aa, acc, da, r, ⟨s7, st6, atD, gD7, own7, nd7⟩, by omega, hl, hrs⟩
  · have hie : i = ds.length := by omega
    subst hie
    refine .inl ⟨wk.stops Hc sub1, ?_⟩
    rw [List.drop_length] at hl
    cases hl
    rw [List.append_nil] at hrs
    subst hrs
    have un := unwipeA (e' := ef1) st1.own I.step.sg us I.st.own
    have nd := List.nodup_cons.mp I.nd
    refine k Gc Hc (.ref D) (D :: Aa) A' (s1.seq0 ⟨I.step.sg, I.step.fr, I.step.own, I.step.gnew⟩) ⟨un, I.st.nd, I.st.sub⟩ (.l I.gD I.atD ?_ I.own) I.nd
    have hacc := (ownA_len I.own).2
    rw [List.length_map] at hacc
    omega
include F in
theorem pd_lc [FG : FamG Xf] {wk : Bool} (own : List (Str × Nat)) (hi : PIt Xf K wk m tg iter it m1) (hg : PGD (blkF Xf scope) K wk (hideM m1 (own.map (·.2))) tg sl gf m2) (ht : PTsD (blkF Xf scope) K m2 ifs tf) (he : PD (blkF Xf scope) K m2 elt ty ef m2)
    (ok : ∀ i, BlkOk (Xf i).N (Xf i).env.scope scope own := by intro _; exact blkOk_by (by rfl)) (us : usB m1 (own.map (·.2)) = true := by rfl) (hs : ∀ j ∈ sl, j ∈ own.map (·.2) := by decide) (le : LeM m2 (hideM m1 (own.map (·.2))) := by repeat (first | exact .nil | refine .cons (by first | exact .rfl _ | exact .u _) ?_))
    (hf : ∀ i x, foldedSetIterable iter (Xf i).env x = pure x := by intro _ _; rfl) : PD Xf K m (.ListComp elt [⟨tg, iter, ifs, 0⟩] scope pos) (.l ty) (eLc it (own.map (·.2)) gf tf ef) m1 := by
  obtain ⟨wi, pi, di⟩ := hi.ex
  obtain ⟨g, pg, dg⟩ := hg.ex
  obtain ⟨tt, pt, dt⟩ := ht.ex
  obtain ⟨te, pe, de⟩ := he.ex
  exact ⟨_, fun i => pe_lc (FG.calm i) (F.nd i) (pi i) (ok i) (fun s H C cl fp => pg ⟨i, s, H, C, cl, fp⟩) (fun s H C cl fp => pt ⟨i, s, H, C, cl, fp⟩) (fun s H C cl fp => pe ⟨i, s, H, C, cl, fp⟩) (hf i), DE.lc di dg dt de us hs le⟩
end
end DL
namespace DL
open PySem L2 PySem.Spec
abbrev Gq := En → Option PyData
def DQv (K : PySem.W.Frag) (m : List Ty) (te : TE) (g : Gq) : Prop :=
  ∀ {G H : Hp} {σ : St} {e : En} {A : List Addr} {d : PyData} {Q : VK}, Stt K m G H σ e A → g e = some d → (∀ (H' : Hp) (v : V), Same H H' → Dq K H' v d → Q v H') → te σ H Q
structure PQ {ι : Type} (Xf : ι → Cx) (K : PySem.W.Frag) (m : List Ty) (e : Expr) (g : Gq) : Prop where
  ex : ∃ te : TE, (∀ i, PE (Xf i) e te) ∧ DQv K m te g
def q1 (gg : PyData → Option PyData) (a : Gq) : Gq := fun e => (a e).bind gg
def q2 (gg : PyData → PyData → Option PyData) (a b : Gq) : Gq := fun e => (a e).bind fun x => (b e).bind fun y => gg x y
def qVar (j : Nat) : Gq := fun e => some (e.getD j .none)
def qC (d : PyData) : Gq := fun _ => some d
section
variable {K : PySem.W.Frag} {G H H' : Hp} {m : List Ty} {σ : St} {e : En} {A : List Addr}
theorem stt_grow (st : Stt K m G H σ e A) (s : Same H H') : Step A G H A G H' ∧ Stt K m G H' σ e A :=
  ⟨⟨Same.refl G, fun a o h _ => s a o h, fun a h => .inl h, fun a h1 ⟨o, h2⟩ => by rw [h1] at h2; cases h2⟩,
    ⟨ownA_fr st.own (Same.refl G) (fun a ha => (ownA_at st.own a ha).1) fun a ha => by obtain ⟨o, h⟩ := (ownA_at st.own a ha).2; rw [h, s a o h], st.nd, st.sub.trans s⟩⟩
theorem stt0 (K : PySem.W.Frag) (H : Hp) : Stt K [] H H [] [] [] := ⟨.nil, List.nodup_nil, Same.refl H⟩
theorem own_snap {t : Ty} {d : PyData} {v : Option V} {A : List Addr} (o : Own K G H t d v A) (s : Same G H) (hn : nou t = true) : ∃ x, v = some x ∧ Dq K H x d := own_frz o s (fun _ _ => rfl) hn
theorem D2.q {r : R2} {ty : Ty} {gg : PyData → PyData → Option PyData} (h : D2 K r ty gg) (hn : nou ty = true) {x y : V} {dx dy d : PyData} {Q : VK} (hx : Dq K H x dx) (hy : Dq K H y dy) (hg : gg dx dy = some d) (k : ∀ (H' : Hp) (v : V), Same H H' → Dq K H' v d → Q v H') : r x y H Q :=
  h (stt0 K H) hx hy hg fun G' H' v Av A' s st o _ => by
    obtain ⟨w, hw, q⟩ := own_snap o st.sub hn
    cases hw
    exact k H' v (fun a o ha => s.fr a o ha (by simp)) q
theorem D1.q {r : V → Hp → VK → Prop} {ty : Ty} {gg : PyData → Option PyData} (h : D1 K r ty gg) (hn : nou ty = true) {x : V} {dx d : PyData} {Q : VK} (hx : Dq K H x dx) (hg : gg dx = some d) (k : ∀ (H' : Hp) (v : V), Same H H' → Dq K H' v d → Q v H') : r x H Q :=
  h (stt0 K H) hx hg fun G' H' v Av A' s st o _ => by
    obtain ⟨w, hw, q⟩ := own_snap o st.sub hn
    cases hw
    exact k H' v (fun a o ha => s.fr a o ha (by simp)) q
theorem DQv.bin {ta tb : TE} {r : R2} {ty : Ty} {gg : PyData → PyData → Option PyData} {f g : Gq} (ha : DQv K m ta f) (hb : DQv K m tb g) (hr : D2 K r ty gg) (hn : nou ty = true) : DQv K m (tOp r ta tb) (q2 gg f g) := by
  intro G H σ e A d Q st hf k
  obtain ⟨x, h1, hf⟩ := oBs hf
  obtain ⟨y, h2, hf⟩ := oBs hf
  refine ha st h1 fun H1 v s1 qx => hb (stt_grow st s1).2 h2 fun H2 w s2 qy => hr.q hn (qx.mono s2) qy hf fun H3 z s3 qz => k H3 z ((s1.trans s2).trans s3) qz
end
section
variable {ι : Type} {Xf : ι → Cx} {P : Program} {w : World} {K : PySem.W.Frag} {mg : Str → Option Value} {base : Heap} {n : Nat} [F : Fam Xf P w K mg base n]
variable {m m1 m2 m3 : List Ty} {pos p p2 apos cpos : Pos} {a b c : Expr} {f g h : Gq} {ty t : Ty} {ts : List Ty}
theorem pq_var (j : Nat) {t : Ty} {x : Str} (hm : m[j]? = some t := by rfl) (hn : nou t = true := by rfl) (hN : ∀ i, (Xf i).N[j]? = some x := by intro _; rfl)
    (hv : ∀ i, Vis (Xf i).env.scope x := by first | (intro _; exact Or.inl rfl) | (intro _; exact Or.inr (Or.inl rfl)) | (intro _; exact Or.inr (Or.inr rfl))) (hd : (x == ("__debug__" : Str)) = false := by decide)
    (hcd : (x == ("__classdict__" : Str)) = false := by decide) : PQ Xf K m (.Name x pos) (qVar j) := by
  refine ⟨tVar j, fun i => pe_var (hN i) (hv i) hd hcd, fun {G H σ e A d Q} st hf k => ?_⟩
  obtain ⟨d', v, Aj, A0, h1, h2, h3, _, _⟩ := ownA_take st.own hm
  obtain ⟨x', hx, q⟩ := own_snap h3 st.sub hn
  subst hx
  cases hf
  rw [List.getD_eq_getElem?_getD, h1] at k
  exact ⟨x', h2, k H x' (Same.refl H) q⟩
theorem pq_int {i : Int} {j} : PQ Xf K m (.Constant (.int i) j pos) (qC (.int i)) := ⟨_, fun _ => pe_int, fun {G H σ e A d Q} st hf k => by cases hf; exact k H _ (Same.refl H) (.int i)⟩
theorem pq_nil : PQ Xf K m (.List [] pos) (qC (.list [])) := ⟨_, fun _ => pe_lst pa_nil, fun {G H σ e A d Q} st hf k => by
  cases hf
  refine ⟨Nat.zero_le _, fun p hp => k _ _ (fun b x hx => by rw [upd_ne (ne_of_none hx hp)]; exact hx) (.lst (.inl upd_same) rfl (Nat.zero_le _) fun i v d h _ => by simp at h)⟩⟩
theorem pq_bin {op : Operator} {gg : PyData → PyData → Option PyData} (ho : Op2 Xf K (binaryOp op) ty gg) (ha : PQ Xf K m a f) (hb : PQ Xf K m b g) (hn : nou ty = true := by rfl) : PQ Xf K m (.BinOp a op b pos) (q2 gg f g) := by
  obtain ⟨r, hr, dr⟩ := ho.ex
  obtain ⟨ta, pa, da⟩ := ha.ex
  obtain ⟨tb, pb, db⟩ := hb.ex
  exact ⟨_, fun i => pe_op (hr i) (pa i) (pb i), DQv.bin da db dr hn⟩
theorem pq_ix {gg : PyData → PyData → Option PyData} (ho : Ix2 Xf K ty gg) (ha : PQ Xf K m a f) (hb : PQ Xf K m b g) (hs : PlainIx b := by exact fun _ _ => rfl) (hn : nou ty = true := by rfl) : PQ Xf K m (.Subscript a b pos) (q2 gg f g) := by
  obtain ⟨r, hr, dr⟩ := ho.ex
  obtain ⟨ta, pa, da⟩ := ha.ex
  obtain ⟨tb, pb, db⟩ := hb.ex
  exact ⟨_, fun i => pe_ix (hr i) (pa i) (pb i) hs, DQv.bin da db dr hn⟩
theorem DQv.un {r : V → Hp → VK → Prop} {ta : TE} {gg : PyData → Option PyData} (da : DQv K m ta f) (dr : D1 K r ty gg) (hn : nou ty = true) : DQv K m (fun σ H Q => ta σ H fun x H1 => r x H1 Q) (q1 gg f) := by
  intro G H σ e A d Q st hf k
  obtain ⟨x, h1, hf⟩ := oBs hf
  exact da st h1 fun H1 v s1 qx => dr.q hn qx hf fun H2 z s2 qz => k H2 z (s1.trans s2) qz
include F in
theorem pq_b1 {x : Str} {id : String} {gg : PyData → Option PyData} (hc : Cl1 Xf K (.builtin id) ty gg) (hm : mg x = none) (hv : bootBuiltins x = some (.builtin id)) (ha : PQ Xf K m a f) (hy : nou ty = true := by rfl) (hg : ∀ i, Gl (Xf i) x := by intro _; rfl)
    (hn : x ≠ "__name__" := by decide) (hdb : (x == ("__debug__" : Str)) = false := by decide) (he : ∀ i, starEach [a] (Xf i).env = (false, eval a (Xf i).env) :: starEach [] (Xf i).env := by intro _; rfl) (hpl : ∀ i, (backTo pos (starEach [] (Xf i).env)).any (·.1) = false := by intro _; rfl) : PQ Xf K m (.Call (.Name x p) [a] [] pos) (q1 gg f) := by
  obtain ⟨r, hr, dr⟩ := hc.ex
  obtain ⟨ta, pa, da⟩ := ha.ex
  exact ⟨_, fun i => pe_callB (hr i) (hg i) (by rw [F.mg_ i]; exact hm) hv (pa_cons (pa i) pa_nil (he i)) hn hdb (he i) (hpl i), DQv.un da dr hy⟩
def scD : PyData → Bool
  | .none | .bool _ | .int _ | .str _ => true
  | _ => false
theorem sc_any {K : PySem.W.Frag} {G H : Hp} {v : V} {d : PyData} (q : Dq K H v d) (h : scD d = true) : Dq K G v d := by
  cases q with
  | non => exact .non
  | bl b => exact .bl b
  | int i => exact .int i
  | str x hx => exact .str x hx
  | lst => cases h
  | tup => cases h
  | dic => cases h
  | dv => cases h
  | ob => cases h
def eQ (g : Gq) : Ef := fun e => (g e).bind fun d => if scD d = true then some (d, e) else none
def bQ (g : Gq) : Bf := fun e => (g e).bind fun d => (gTruth d).map fun b => (b, e)
theorem pd_q (ha : PQ Xf K m a f) : PD Xf K m a .s (eQ f) m := by
  obtain ⟨ta, pa, da⟩ := ha.ex
  refine ⟨ta, pa, fun {G H σ e A d e' Q} st hf k => ?_⟩
  obtain ⟨x, h1, hf⟩ := oBs hf
  obtain ⟨h2, h3⟩ := ite_some hf
  cases h3
  exact da st h1 fun H1 v s1 q => k G H1 v [] A (stt_grow st s1).1 (stt_grow st s1).2 (.s (sc_any q h2)) st.nd
def bQT (g : Gq) : Bf := fun e => (g e).bind fun d => match d with | .bool b => some (b, e) | _ => none
theorem pb_qcmp {op : CmpOp} {gg : PyData → PyData → Option PyData} (ho : Op2 Xf K (compareOp op) .s gg) (ha : PQ Xf K m a f) (hb : PQ Xf K m b g) (hm : behindInMarks op b = false := by first | exact nomark _ | rfl) : PB Xf K m (.Compare a [op] [b] pos) (bQT (q2 gg f g)) m := by
  obtain ⟨r, hr, dr⟩ := ho.ex
  obtain ⟨ta, pa, da⟩ := ha.ex
  obtain ⟨tb, pb, db⟩ := hb.ex
  refine ⟨_, fun i => pt_cmpR (hr i) (pa i) (pb i) hm, fun {G H σ e A b e' Q} st hf k => ?_⟩
  obtain ⟨x, h1, hf⟩ := oBs hf
  refine DQv.bin da db dr rfl st h1 fun H1 v s1 q => ?_
  cases q with
  | bl b1 => cases hf; exact ⟨_, rfl, k _ _ _ (stt_grow st s1).1 (stt_grow st s1).2⟩
  | _ => cases hf
end
def DPv (K : PySem.W.Frag) (m : List Ty) (te : TE) (g : Gq) : Prop :=
  ∀ {G H : Hp} {σ : St} {e : En} {A : List Addr} {d : PyData} {Q : VK}, Stt K m G H σ e A → g e = some d → (∀ (H' : Hp) (v : V), Same H H' → Dq K G v d → Q v H') → te σ H Q
structure PV {ι : Type} (Xf : ι → Cx) (K : PySem.W.Frag) (m : List Ty) (e : Expr) (g : Gq) : Prop where
  ex : ∃ te : TE, (∀ i, PE (Xf i) e te) ∧ DPv K m te g
def qS (g : Gq) : Gq := fun e => (g e).bind fun d => if scD d = true then some d else none
section
variable {ι : Type} {Xf : ι → Cx} {P : Program} {w : World} {K : PySem.W.Frag} {mg : Str → Option Value} {base : Heap} {n : Nat} [F : Fam Xf P w K mg base n]
variable {m m1 m2 m3 : List Ty} {pos p p2 apos cpos : Pos} {a b c : Expr} {f g h : Gq} {ty t : Ty} {ts : List Ty}
theorem pd_mov (j : Nat) {x : Str} (hm : m[j]? = some t := by rfl) (hu : t ≠ .u := by exact fun z => nomatch z) (hN : ∀ i, (Xf i).N[j]? = some x := by intro _; rfl)
    (hv : ∀ i, Vis (Xf i).env.scope x := by first | (intro _; exact Or.inl rfl) | (intro _; exact Or.inr (Or.inl rfl)) | (intro _; exact Or.inr (Or.inr rfl))) (hd : (x == ("__debug__" : Str)) = false := by decide)
    (hcd : (x == ("__classdict__" : Str)) = false := by decide) : PD Xf K m (.Name x pos) t (eVar j) (m.set j .u) := by
  refine ⟨tVar j, fun i => pe_var (hN i) (hv i) hd hcd, fun {G H σ e A d e' Q} st hf k => ?_⟩
  obtain ⟨d', v, Aj, A0, h1, h2, h3, h4, hp⟩ := ownA_take st.own hm
  cases hf
  rw [List.getD_eq_getElem?_getD, h1] at k
  have nd := hp.nodup_iff.mp st.nd
  have hv : ∃ x, v = some x := by cases h3 with | u => exact absurd rfl hu | s => exact ⟨_, rfl⟩ | q => exact ⟨_, rfl⟩ | d => exact ⟨_, rfl⟩ | t => exact ⟨_, rfl⟩ | o => exact ⟨_, rfl⟩ | f => exact ⟨_, rfl⟩ | x => exact ⟨_, rfl⟩ | g => exact ⟨_, rfl⟩ | l => exact ⟨_, rfl⟩ | r => exact ⟨_, rfl⟩ | e => exact ⟨_, rfl⟩ | k => exact ⟨_, rfl⟩ | a => exact ⟨_, rfl⟩
  obtain ⟨x, rfl⟩ := hv
  exact ⟨x, h2, k G H x Aj A0 ⟨Same.refl G, fun a o h _ => h, fun a h => .inl (hp.mem_iff.mpr h), fun a h1 ⟨o, h2⟩ => by rw [h1] at h2; cases h2⟩ ⟨h4, (List.nodup_append.mp nd).2.1, st.sub⟩ h3 nd⟩
end
abbrev Pf := En → PyData → En
def DPl (K : PySem.W.Frag) (m : List Ty) (te : TE) (ty : Ty) (get : Gq) (put : Pf) : Prop :=
  ∀ {G H : Hp} {σ : St} {e : En} {A : List Addr} {d : PyData}, Stt K m G H σ e A → get e = some d → ∃ (a : Addr) (Ad Ar : List Addr), A.Perm (Ad ++ Ar) ∧ Own K G H ty d (some (.ref a)) Ad ∧
    (∀ {Q : VK}, (∀ H', Same H H' → Q (.ref a) H') → te σ H Q) ∧
    ∀ {G' H' : Hp} {d' : PyData} {Ad' : List Addr}, Same G G' → Own K G' H' ty d' (some (.ref a)) Ad' → (∀ b ∈ Ar, H' b = H b ∧ G' b = none) → ∃ A', OwnA K G' H' m (put e d') σ A' ∧ A'.Perm (Ad' ++ Ar)
structure PPl {ι : Type} (Xf : ι → Cx) (K : PySem.W.Frag) (m : List Ty) (e : Expr) (ty : Ty) (get : Gq) (put : Pf) : Prop where
  ex : ∃ te : TE, (∀ i, PE (Xf i) e te) ∧ DPl K m te ty get put
def lstTy : Ty → Bool
  | .l _ => true
  | .r _ => true
  | .d => true
  | .t => true
  | .o _ _ _ => true
  | _ => false
def pVar (j : Nat) : Pf := fun e d => e.set j d
def itemD (d : PyData) (i : PyData) : Option PyData := match d, i with
  | .list ds, .int k => atI ds k
  | _, _ => none
def setD (d : PyData) (i : PyData) (x : PyData) : PyData := match d, i with
  | .list ds, .int k => match ixN ds.length k with
    | some j => .list (ds.set j x)
    | none => d
  | _, _ => d
def gSub1 (g gi : Gq) : Gq := fun e => (g e).bind fun d => (gi e).bind fun i => itemD d i
def pSub1 (g gi : Gq) (pt : Pf) : Pf := fun e x => pt e (setD ((g e).getD .none) ((gi e).getD .none) x)
section
variable {ι : Type} {Xf : ι → Cx} {P : Program} {w : World} {K : PySem.W.Frag} {mg : Str → Option Value} {base : Heap} {n : Nat} [F : Fam Xf P w K mg base n]
variable {m m1 m2 m3 : List Ty} {pos p p2 apos cpos : Pos} {a b c : Expr} {f g gi h : Gq} {pt : Pf} {ty t : Ty} {ts : List Ty}
theorem pp_var (j : Nat) {t : Ty} {x : Str} (hm : m[j]? = some t := by rfl) (hl : lstTy t = true := by rfl) (hN : ∀ i, (Xf i).N[j]? = some x := by intro _; rfl)
    (hv : ∀ i, Vis (Xf i).env.scope x := by first | (intro _; exact Or.inl rfl) | (intro _; exact Or.inr (Or.inl rfl)) | (intro _; exact Or.inr (Or.inr rfl))) (hd : (x == ("__debug__" : Str)) = false := by decide)
    (hcd : (x == ("__classdict__" : Str)) = false := by decide) : PPl Xf K m (.Name x pos) t (qVar j) (pVar j) := by
  refine ⟨tVar j, fun i => pe_var (hN i) (hv i) hd hcd, fun {G H σ e A d} st hf => ?_⟩
  obtain ⟨d', v, Aj, A0, h1, h2, h3, h4, hp⟩ := ownA_take st.own hm
  cases hf
  have ed : e.getD j .none = d' := by rw [List.getD_eq_getElem?_getD, h1]; rfl
  rw [ed]
  have hj : (m.set j .u)[j]? = some .u := by
    have := (List.getElem?_eq_some_iff.mp hm).1
    simp [this]
  obtain ⟨a, rfl⟩ : ∃ a : Addr, v = some (.ref a) := by
    cases h3 with
    | u => cases hl
    | s => cases hl
    | e => cases hl
    | k => cases hl
    | a => cases hl
    | q => cases hl
    | d => exact ⟨_, rfl⟩
    | t => exact ⟨_, rfl⟩
    | o => exact ⟨_, rfl⟩
    | f => cases hl
    | x => cases hl
    | g => cases hl
    | l => exact ⟨_, rfl⟩
    | r => exact ⟨_, rfl⟩
  refine ⟨a, Aj, A0, hp, h3, fun {Q} k => ⟨_, h2, k H (Same.refl H)⟩, fun {G' H' d2 Ad'} sg o hr => ?_⟩
  obtain ⟨A', o', p'⟩ := ownA_put (ownA_fr h4 sg (fun b hb => (hr b hb).2) fun b hb => (hr b hb).1) hj o
  rw [List.set_set, set_id hm, set_id h2] at o'
  exact ⟨A', o', p'⟩
theorem repl_get {t : Ty} {n j : Nat} (h : j < n) : (List.replicate n t)[j]? = some t := by rw [List.getElem?_replicate, if_pos h]
theorem repl_set {t : Ty} {n j : Nat} : (List.replicate n t).set j t = List.replicate n t := by
  apply List.ext_getElem?
  intro i
  rw [List.getElem?_set]
  split
  · rename_i h; subst h; split
    · rw [List.getElem?_replicate]; simp_all
    · rw [List.getElem?_eq_none (by omega)]
  · rfl
theorem DPl.sub {te ti : TE} (hp : DPl K m te (.l t) g pt) (hi : DQv K m ti gi) (hl : lstTy t = true) : DPl K m (tOp (rIxL K) te ti) t (gSub1 g gi) (pSub1 g gi pt) := by
  intro G H σ e A d st hf
  obtain ⟨dl, h1, hf⟩ := oBs hf
  obtain ⟨di, h2, hf⟩ := oBs hf
  obtain ⟨a, Ad, Ar, hp1, o1, ev, back⟩ := hp st h1
  cases o1 with
  | @l _ _ vs ds A1 ga ha hz oA =>
    cases di with
    | int k =>
      have hf : (ixN ds.length k).bind (fun j => ds[j]?) = some d := hf
      obtain ⟨j, hj, hd⟩ := oBs hf
      have hjl : j < ds.length := (List.getElem?_eq_some_iff.mp hd).1
      obtain ⟨d', v, Aj, A0, e1, e2, oj, oR, pj⟩ := ownA_take oA (j := j) (repl_get hjl)
      rw [hd] at e1; cases e1
      have len := (ownA_len oA).2
      rw [List.length_map] at len
      have hvj : ∃ w, v = some w ∧ vs[j]? = some w := by
        rw [List.getElem?_map] at e2
        obtain ⟨w, hw, e3⟩ := Option.map_eq_some_iff.mp e2
        exact ⟨w, e3.symm, hw⟩
      obtain ⟨w, rfl, hw⟩ := hvj
      obtain ⟨b, rfl⟩ : ∃ b : Addr, w = .ref b := by
        cases oj with
        | u => cases hl
        | s => cases hl
        | e => cases hl
        | k => cases hl
        | a => cases hl
        | q => cases hl
        | d => exact ⟨_, rfl⟩
        | t => exact ⟨_, rfl⟩
        | o => exact ⟨_, rfl⟩
        | f => cases hl
        | x => cases hl
        | g => cases hl
        | l => exact ⟨_, rfl⟩
        | r => exact ⟨_, rfl⟩
      refine ⟨b, Aj, a :: (A0 ++ Ar), ?_, oj, fun {Q} kq => ?_, fun {G' H' d2 Ad'} sg o hr => ?_⟩
      · refine hp1.trans (List.perm_iff_count.mpr fun z => ?_)
        have := List.perm_iff_count.mp pj z
        simp only [List.count_append, List.count_cons, List.cons_append] at this ⊢
        omega
      · refine ev fun H1 s1 => hi (stt_grow st s1).2 h2 fun H2 x s2 q => ?_
        cases q with
        | int k =>
          refine ⟨a, vs, k, .ref b, rfl, rfl, .inl (.inl ((s1.trans s2) _ _ ha)), ?_, kq H2 (s1.trans s2)⟩
          unfold atI
          rw [len, hj]; exact hw
      · have hA0 : ∀ b ∈ A0, H' b = H b ∧ G' b = none := fun b hb => hr b (List.mem_cons_of_mem _ (List.mem_append_left _ hb))
        have hju : ((List.replicate ds.length t).set j .u)[j]? = some .u := by rw [List.getElem?_set_self (by rw [List.length_replicate]; exact hjl)]
        obtain ⟨A2, o2, p2⟩ := ownA_put (ownA_fr oR sg (fun b hb => (hA0 b hb).2) fun b hb => (hA0 b hb).1) hju o
        rw [List.set_set, repl_set, set_id e2] at o2
        have hra := hr a (List.mem_cons_self ..)
        have o3 : Own K G' H' (.l t) (.list (ds.set j d2)) (some (.ref a)) (a :: A2) := .l hra.2 (by rw [hra.1]; exact ha) hz (by rw [List.length_set]; exact o2)
        obtain ⟨A3, o4, p4⟩ := back sg o3 fun b hb => hr b (List.mem_cons_of_mem _ (List.mem_append_right _ hb))
        refine ⟨A3, ?_, p4.trans (List.perm_iff_count.mpr fun z => ?_)⟩
        · have : pSub1 g gi pt e d2 = pt e (.list (ds.set j d2)) := by
            show pt e (setD ((g e).getD .none) ((gi e).getD .none) d2) = _
            rw [h1, h2]
            show pt e (match ixN ds.length k with | some j => .list (ds.set j d2) | none => .list ds) = _
            rw [hj]
          rw [this]; exact o4
        · have := List.perm_iff_count.mp p2 z
          simp only [List.count_append, List.count_cons, List.cons_append] at this ⊢
          omega
    | _ => cases hf
theorem DPl.fld {te ti : TE} {k : Nat} (hp : DPl K m te (.r ts) g pt) (hi : DQv K m ti gi) (hk : ∀ e, gi e = some (.int (k : Nat))) (ht : ts[k]? = some t) (hl : lstTy t = true) : DPl K m (tOp (rIxL K) te ti) t (gSub1 g gi) (pSub1 g gi pt) := by
  intro G H σ e A d st hf
  obtain ⟨dl, h1, hf⟩ := oBs hf
  obtain ⟨di, h2, hf⟩ := oBs hf
  obtain ⟨a, Ad, Ar, hp1, o1, ev, back⟩ := hp st h1
  cases o1 with
  | @r _ _ vs ds A1 ga ha hz oA =>
    rw [hk e] at h2; cases h2
    have hf : (ixN ds.length ((k : Nat) : Int)).bind (fun j => ds[j]?) = some d := hf
    obtain ⟨j, hj, hd⟩ := oBs hf
    have hjk : j = k := by
      have q := ixN_seq hj
      have q1 := q.1
      rw [seqIndex_of (by omega) (by omega)] at q1
      have := Option.some.inj q1
      omega
    subst hjk
    obtain ⟨d', v, Aj, A0, e1, e2, oj, oR, pj⟩ := ownA_take oA (j := j) ht
    rw [hd] at e1; cases e1
    have len := (ownA_len oA).2
    rw [List.length_map] at len
    have hvj : ∃ w, v = some w ∧ vs[j]? = some w := by
      rw [List.getElem?_map] at e2
      obtain ⟨w, hw, e3⟩ := Option.map_eq_some_iff.mp e2
      exact ⟨w, e3.symm, hw⟩
    obtain ⟨w, rfl, hw⟩ := hvj
    obtain ⟨b, rfl⟩ : ∃ b : Addr, w = .ref b := by
      cases oj with
      | u => cases hl
      | s => cases hl
      | e => cases hl
      | k => cases hl
      | a => cases hl
      | q => cases hl
      | d => exact ⟨_, rfl⟩
      | t => exact ⟨_, rfl⟩
      | o => exact ⟨_, rfl⟩
      | f => cases hl
      | x => cases hl
      | g => cases hl
      | l => exact ⟨_, rfl⟩
      | r => exact ⟨_, rfl⟩
    refine ⟨b, Aj, a :: (A0 ++ Ar), ?_, oj, fun {Q} kq => ?_, fun {G' H' d2 Ad'} sg o hr => ?_⟩
    · refine hp1.trans (List.perm_iff_count.mpr fun z => ?_)
      have := List.perm_iff_count.mp pj z
      simp only [List.count_append, List.count_cons, List.cons_append] at this ⊢
      omega
    · refine ev fun H1 s1 => hi (stt_grow st s1).2 (hk e) fun H2 x s2 q => ?_
      cases q with
      | int =>
        refine ⟨a, vs, _, .ref b, rfl, rfl, .inl (.inl ((s1.trans s2) _ _ ha)), ?_, kq H2 (s1.trans s2)⟩
        unfold atI
        rw [len, hj]; exact hw
    · have hA0 : ∀ b ∈ A0, H' b = H b ∧ G' b = none := fun b hb => hr b (List.mem_cons_of_mem _ (List.mem_append_left _ hb))
      have hju : (ts.set j .u)[j]? = some .u := by rw [List.getElem?_set_self (List.getElem?_eq_some_iff.mp ht).1]
      obtain ⟨A2, o2, p2⟩ := ownA_put (ownA_fr oR sg (fun b hb => (hA0 b hb).2) fun b hb => (hA0 b hb).1) hju o
      rw [List.set_set, set_id ht, set_id e2] at o2
      have hra := hr a (List.mem_cons_self ..)
      have o3 : Own K G' H' (.r ts) (.list (ds.set j d2)) (some (.ref a)) (a :: A2) := .r hra.2 (by rw [hra.1]; exact ha) hz o2
      obtain ⟨A3, o4, p4⟩ := back sg o3 fun b hb => hr b (List.mem_cons_of_mem _ (List.mem_append_right _ hb))
      refine ⟨A3, ?_, p4.trans (List.perm_iff_count.mpr fun z => ?_)⟩
      · have : pSub1 g gi pt e d2 = pt e (.list (ds.set j d2)) := by
          show pt e (setD ((g e).getD .none) ((gi e).getD .none) d2) = _
          rw [h1, hk e]
          show pt e (match ixN ds.length ((j : Nat) : Int) with | some j => .list (ds.set j d2) | none => .list ds) = _
          rw [hj]
        rw [this]; exact o4
      · have := List.perm_iff_count.mp p2 z
        simp only [List.count_append, List.count_cons, List.cons_append] at this ⊢
        omega
include F in
theorem pp_fld (k : Nat) {j} {ki : Int} (hp : PPl Xf K m a (.r ts) g pt) (hk : ki = (k : Nat) := by rfl) (ht : ts[k]? = some t := by rfl) (hl : lstTy t = true := by rfl) : PPl Xf K m (.Subscript a (.Constant (.int ki) j p) pos) t (gSub1 g (qC (.int ki))) (pSub1 g (qC (.int ki)) pt) := by
  obtain ⟨ta, pa, da⟩ := hp.ex
  obtain ⟨tb, pb, db⟩ := (pq_int (Xf := Xf) (K := K) (m := m) (i := ki) (j := j) (pos := p)).ex
  exact ⟨_, fun i => by have := pe_ix (ix_list (X := Xf i)) (pa i) (pb i) (fun _ _ => rfl) (pos := pos); rw [F.kk i] at this; exact this, DPl.fld da db (fun e => by subst hk; rfl) ht hl⟩
end
end DL
namespace DL
open PySem L2 PySem.Spec
inductive Out where
  | nx | bk | ct | rt (d : PyData)
abbrev Sf := En → Option (Out × En)
structure Mk where
  b : List Ty
  c : List Ty
  r : List Ty
  po : List Nat
  ty : Ty
def Pin (po : List Nat) (σ σ' : St) : Prop := ∀ j ∈ po, σ'[j]? = σ[j]?
theorem Pin.refl {po : List Nat} {σ : St} : Pin po σ σ := fun _ _ => rfl
theorem Pin.trans {po : List Nat} {σ σ1 σ2 : St} (h : Pin po σ σ1) (k : Pin po σ1 σ2) : Pin po σ σ2 := fun j hj => (k j hj).trans (h j hj)
theorem Pin.set {po : List Nat} {σ : St} {j : Nat} {x : Option V} (h : j ∉ po) : Pin po σ (σ.set j x) := fun i hi => by rw [List.getElem?_set_ne]; intro z; exact h (z ▸ hi)
def Fin (K : PySem.W.Frag) (M : Mk) (mn : List Ty) (A : List Addr) (G H : Hp) (σ : St) (D : Ends) (e' : En) : Out → Prop
  | .nx => ∀ (G' H' : Hp) (σ' : St) (A' : List Addr), Step A G H A' G' H' → Stt K mn G' H' σ' e' A' → Pin M.po σ σ' → D.nx σ' H'
  | .bk => ∀ (G' H' : Hp) (σ' : St) (A' : List Addr), Step A G H A' G' H' → Stt K M.b G' H' σ' e' A' → Pin M.po σ σ' → D.bk σ' H'
  | .ct => ∀ (G' H' : Hp) (σ' : St) (A' : List Addr), Step A G H A' G' H' → Stt K M.c G' H' σ' e' A' → Pin M.po σ σ' → D.ct σ' H'
  | .rt d => ∀ (G' H' : Hp) (σ' : St) (v : V) (Av A' : List Addr), Step A G H (Av ++ A') G' H' → Stt K M.r G' H' σ' e' A' → Own K G' H' M.ty d (some v) Av → (Av ++ A').Nodup → Pin M.po σ σ' → D.rt v H'
def DS (K : PySem.W.Frag) (M : Mk) (m : List Ty) (t : TS) (f : Sf) (mn : List Ty) : Prop :=
  ∀ {G H : Hp} {σ : St} {e : En} {A : List Addr} {o : Out} {e' : En} {D : Ends}, Stt K m G H σ e A → f e = some (o, e') → Fin K M mn A G H σ D e' o → t D σ H
structure PSd {ι : Type} (Xf : ι → Cx) (K : PySem.W.Frag) (M : Mk) (m : List Ty) (st : Stmt) (f : Sf) (mn : List Ty) : Prop where
  ex : ∃ t : TS, (∀ i, PS (Xf i) st t) ∧ DS K M m t f mn
structure PSsd {ι : Type} (Xf : ι → Cx) (K : PySem.W.Frag) (M : Mk) (m : List Ty) (st : List Stmt) (f : Sf) (mn : List Ty) : Prop where
  ex : ∃ t : TS, (∀ i, PSs (Xf i) st t) ∧ DS K M m t f mn
class FamN {ι : Type} (Xf : ι → Cx) : Prop where
  ps : ∀ i, PassesOwn (model (Xf i).prog (Xf i).w) (Xf i).A (Xf i).env (Xf i).xe
def fuel : Nat := 1048576
def sNil : Sf := fun e => some (.nx, e)
def sSeq (f g : Sf) : Sf := fun e => (f e).bind fun p => match p.1 with
  | .nx => g p.2
  | o => some (o, p.2)
def sIf (c : Bf) (f g : Sf) : Sf := fun e => (c e).bind fun p => if p.1 = true then f p.2 else g p.2
def sRet (f : Ef) : Sf := fun e => (f e).map fun p => (.rt p.1, p.2)
def sBrk : Sf := fun e => some (.bk, e)
def sCnt : Sf := fun e => some (.ct, e)
def sRetN : Sf := fun e => some (.rt .none, e)
def sDrop (f : Ef) : Sf := fun e => (f e).map fun p => (.nx, p.2)
def sAsg (j : Nat) (f : Ef) : Sf := fun e => (f e).map fun p => (.nx, p.2.set j p.1)
def sTg (f : Ef) (g : Gf) : Sf := fun e => (f e).bind fun p => (g p.1 p.2).map fun e' => (.nx, e')
def sPar (i j : Nat) (f : Lf) : Sf := fun e => (f e).bind fun p => match p.1 with
  | [x, y] => some (.nx, (p.2.set i x).set j y)
  | _ => none
def sPar3 (i j l : Nat) (f : Lf) : Sf := fun e => (f e).bind fun p => match p.1 with
  | [x, y, z] => some (.nx, ((p.2.set i x).set j y).set l z)
  | _ => none
def forL (g : Gf) (f : Sf) : List PyData → En → Option (Out × En)
  | [], e => some (.nx, e)
  | d :: ds, e => (g d e).bind fun e1 => (f e1).bind fun p => match p.1 with
    | .nx => forL g f ds p.2
    | .ct => forL g f ds p.2
    | .bk => some (.nx, p.2)
    | .rt r => some (.rt r, p.2)
def sFor (it : Lf) (g : Gf) (f : Sf) : Sf := fun e => (it e).bind fun p => forL g f p.1 p.2
def whL (c : Bf) (f : Sf) : Nat → En → Option (Out × En)
  | 0, _ => none
  | k + 1, e => (c e).bind fun p => if p.1 = true then (f p.2).bind fun q => match q.1 with
    | .nx => whL c f k q.2
    | .ct => whL c f k q.2
    | .bk => some (.nx, q.2)
    | .rt r => some (.rt r, q.2) else some (.nx, p.2)
def sWh (fuel : Nat) (c : Bf) (f : Sf) : Sf := fun e => whL c f fuel e
section
variable {K : PySem.W.Frag} {M : Mk} {G H G1 H1 : Hp} {m m1 m2 mn : List Ty} {σ σ1 : St} {e : En} {A A1 : List Addr} {D : Ends} {e' : En} {o : Out} {t u : TS} {f g : Sf} {ef : Ef} {bf : Bf} {lf : Lf}
theorem Fin.back (s : Step A G H A1 G1 H1) (p : Pin M.po σ σ1) (h : Fin K M mn A G H σ D e' o) : Fin K M mn A1 G1 H1 σ1 D e' o := by
  cases o with
  | nx => exact fun G' H' σ' A' s' st' p' => h G' H' σ' A' (s.seq0 s') st' (p.trans p')
  | bk => exact fun G' H' σ' A' s' st' p' => h G' H' σ' A' (s.seq0 s') st' (p.trans p')
  | ct => exact fun G' H' σ' A' s' st' p' => h G' H' σ' A' (s.seq0 s') st' (p.trans p')
  | rt d => exact fun G' H' σ' v Av A' s' st' o' nd p' => h G' H' σ' v Av A' (s.seq0 s') st' o' nd (p.trans p')
theorem le_aside {v : V} {Av : List Addr} {ty : Ty} {d : PyData} (l : LeM m m1) (s : Step A G H (Av ++ A1) G1 H1) (st : Stt K m G1 H1 σ e A1) (ov : Own K G1 H1 ty d (some v) Av) (nd : (Av ++ A1).Nodup) :
    ∃ G2 A2, Step A G H (Av ++ A2) G2 H1 ∧ Stt K m1 G2 H1 σ e A2 ∧ Own K G2 H1 ty d (some v) Av ∧ (Av ++ A2).Nodup := by
  obtain ⟨G2, A2, s2, st2⟩ := stt_le l st
  obtain ⟨s3, nd3, hg, hh⟩ := s.seq (own_at ov) nd s2 st2.nd
  exact ⟨G2, A2, s3, st2, own_fr ov s2.sg hg fun _ _ => rfl, nd3⟩
theorem DS.le (h : DS K M m t f m1) (l : LeM m1 mn) : DS K M m t f mn := by
  intro G H σ e A o e' D st hf k
  refine h st hf ?_
  cases o with
  | nx =>
    intro G' H' σ' A' s' st' p'
    obtain ⟨G2, A2, s2, st2⟩ := stt_le l st'
    exact k G2 H' σ' A2 (s'.seq0 s2) st2 p'
  | bk => exact k
  | ct => exact k
  | rt d => exact k
theorem DS.seq (h1 : DS K M m t f m1) (h2 : DS K M m1 u g mn) : DS K M m (tSeq t u) (sSeq f g) mn := by
  intro G H σ e A o e' D st hf k
  obtain ⟨⟨o1, e1⟩, hf1, hf⟩ := oBs hf
  refine h1 st hf1 ?_
  cases o1 with
  | nx => exact fun G' H' σ' A' s' st' p' => h2 st' hf (k.back s' p')
  | bk => cases hf; exact k
  | ct => cases hf; exact k
  | rt d => cases hf; exact k
theorem DS.nil : DS K M m tNext sNil m := fun st hf k => by cases hf; exact k _ _ _ _ Step.refl st Pin.refl
theorem DS.ite {tc : TT} (hc : DT K m tc bf m1) (h1 : DS K M m1 t f mn) (h2 : DS K M m1 u g mn) : DS K M m (tIfS tc t u) (sIf bf f g) mn := by
  intro G H σ e A o e' D st hf k
  obtain ⟨⟨b, e1⟩, hf1, hf⟩ := oBs hf
  refine hc st hf1 fun G1 H1 A1 s1 st1 => ?_
  cases b with
  | true => exact h1 st1 hf (k.back s1 Pin.refl)
  | false => exact h2 st1 hf (k.back s1 Pin.refl)
theorem DS.ret {te : TE} (he : DE K m te M.ty ef m1) (l : LeM m1 M.r) : DS K M m (tRet te) (sRet ef) mn := by
  intro G H σ e A o e' D st hf k
  obtain ⟨⟨d, e1⟩, hf1, hf⟩ := Option.map_eq_some_iff.mp hf
  cases hf
  refine he st hf1 fun G1 H1 v Av A1 s1 st1 o1 nd1 => ?_
  obtain ⟨G2, A2, s2, st2, o2, nd2⟩ := le_aside l s1 st1 o1 nd1
  exact k G2 H1 σ v Av A2 s2 st2 o2 nd2 Pin.refl
theorem DS.brk (l : LeM m M.b) : DS K M m tBreak sBrk mn := by
  intro G H σ e A o e' D st hf k
  cases hf
  obtain ⟨G2, A2, s2, st2⟩ := stt_le l st
  exact k G2 H σ A2 s2 st2 Pin.refl
theorem DS.drop {te : TE} {ty : Ty} (he : DE K m te ty ef m1) : DS K M m (tDrop te) (sDrop ef) m1 := by
  intro G H σ e A o e' D st hf k
  obtain ⟨⟨d, e1⟩, hf1, hf⟩ := Option.map_eq_some_iff.mp hf
  cases hf
  exact he st hf1 fun G1 H1 v Av A1 s1 st1 o1 nd1 => k G1 H1 σ A1 (s1.less fun a h => List.mem_append_right _ h) st1 Pin.refl
theorem DS.asg {te : TE} {ty : Ty} {j : Nat} (he : DE K m te ty ef m1) (hj : j < m1.length) (hp : j ∉ M.po) : DS K M m (tAsg te (gName j)) (sAsg j ef) (m1.set j ty) := by
  intro G H σ e A o e' D st hf k
  obtain ⟨⟨d, e1⟩, hf1, hf⟩ := Option.map_eq_some_iff.mp hf
  cases hf
  refine he st hf1 fun G1 H1 v Av A1 s1 st1 o1 nd1 => ?_
  obtain ⟨A2, st2, hA⟩ := stt_set st1 hj o1 nd1
  exact k G1 H1 _ A2 (s1.less hA) st2 (Pin.set hp)
theorem DS.tg {te : TE} {tg : TG} {gf : Gf} {sl : List Nat} (he : DE K m te .s ef m1) (hg : DG K false m1 tg sl gf m2) (hp : ∀ j ∈ M.po, j ∉ sl) : DS K M m (tAsg te tg) (sTg ef gf) m2 := by
  intro G H σ e A o e' D st hf k
  obtain ⟨⟨d, e1⟩, hf1, hf⟩ := oBs hf
  obtain ⟨e2, hf2, hf⟩ := Option.map_eq_some_iff.mp hf
  cases hf
  refine he st hf1 fun G1 H1 v Av A1 s1 st1 o1 nd1 => ?_
  cases o1 with
  | s q1 => exact hg st1 (.inl q1) hf2 fun G2 H2 σ2 A2 s2 st2 hs hl => k G2 H2 σ2 A2 (s1.seq0 s2) st2 fun j hj => hs j (hp j hj)
theorem DS.par {ta : TA} {i j : Nat} (ha : DA K m ta [.s, .s] lf m1) (hi : i < m1.length) (hj : j < m1.length) (pi : i ∉ M.po) (pj : j ∉ M.po) : DS K M m (tPar i j ta) (sPar i j lf) ((m1.set i .s).set j .s) := by
  intro G H σ e A o e' D st hf k
  obtain ⟨⟨ds, e1⟩, hf1, hf⟩ := oBs hf
  refine ha st hf1 fun G1 H1 vs Av A1 s1 st1 o1 nd1 => ?_
  obtain ⟨rfl, q⟩ := of_ownA (n := 2) o1
  match ds, hf, q with
  | [x, y], hf, q =>
    cases hf
    match vs, q with
    | [v, w], q =>
      have qv := q.head
      have qw := q.tail.head
      obtain ⟨A2, st2, hA2⟩ := stt_set st1 hi (.s qv) (Av := []) st1.nd
      obtain ⟨A3, st3, hA3⟩ := stt_set st2 (by rw [List.length_set]; exact hj) (.s qw) (Av := []) st2.nd
      exact ⟨v, w, rfl, k G1 H1 _ A3 (s1.less fun a h => hA2 a (hA3 a h)) st3 ((Pin.set pi).trans (Pin.set pj))⟩
theorem DS.for {wk : Bool} {wi : TI} {tg : TG} {gf : Gf} {sl : List Nat} {ml : List Ty} (hi : DI K wk m wi lf m1) (l1 : LeM m1 ml) (hg : DG K wk ml tg sl gf m2) (hb : DS K { M with b := mn, c := ml } m2 t f ml) (l2 : LeM ml mn) (hp : ∀ j ∈ M.po, j ∉ sl) :
    DS K M m (tFor wi tg t) (sFor lf gf f) mn := by
  intro G H σ e A o e' D st hf k
  obtain ⟨⟨ds, e1⟩, hf1, hf⟩ := oBs hf
  refine hi st hf1 fun G1 H1 A1 J s1 st1 wk hz => ?_
  obtain ⟨G2, A2, s2, st2⟩ := stt_le l1 st1
  let T := fun (i : Nat) (σc : St) (Hc : Hp) => ∃ Gc ec A', Step A G H A' Gc Hc ∧ Same G1 Gc ∧ Stt K ml Gc Hc σc ec A' ∧ Pin M.po σ σc ∧ forL gf f (ds.drop i) ec = some (o, e')
  refine ⟨fun i mm σc Hc => mm = ds.length - i ∧ i ≤ ds.length ∧ T i σc Hc, ⟨ds.length, by omega, Nat.zero_le _, G2, e1, A2, s1.seq0 s2, s2.sg, st2, Pin.refl, hf⟩, ?_⟩
  rintro i mm σc Hc ⟨rfl, hle, Gc, ec, A', sc, sg, stc, pc, hl⟩
  have sub1 : Same G1 Hc := sg.trans stc.sub
  by_cases hi : i < ds.length
  · refine .inr ⟨wk.goes i Hc hi sub1, fun σn Hn => i < ds.length ∧ T (i + 1) σn Hn, fun σn Hn hn => ⟨ds.length - (i + 1), by omega, rfl, by omega, hn.2⟩, fun x Hy hy => ?_⟩
    obtain ⟨Gy, sy, sty, sgy, qy⟩ := wk.yields hi sg stc hy
    have hd : ds.drop i = ds[i] :: ds.drop (i + 1) := List.drop_eq_getElem_cons hi
    rw [hd] at hl
    unfold forL at hl
    obtain ⟨e2, hl1, hl⟩ := oBs hl
    obtain ⟨⟨o3, e3⟩, hl2, hl⟩ := oBs hl
    refine hg sty (qy _ (List.getElem?_eq_getElem hi)) hl1 fun G3 H3 σ3 A3 s3 st3 k3 l3 => ?_
    have p3 : Pin M.po σ σ3 := pc.trans fun j hj => k3 j (hp j hj)
    have s03 := (sc.seq0 sy).seq0 s3
    refine hb st3 hl2 ?_
    cases o3 with
    | nx => exact fun G4 H4 σ4 A4 s4 st4 p4 => ⟨hi, G4, e3, A4, s03.seq0 s4, ((sg.trans sgy).trans s3.sg).trans s4.sg, st4, p3.trans p4, hl⟩
    | ct => exact fun G4 H4 σ4 A4 s4 st4 p4 => ⟨hi, G4, e3, A4, s03.seq0 s4, ((sg.trans sgy).trans s3.sg).trans s4.sg, st4, p3.trans p4, hl⟩
    | bk => cases hl; exact fun G4 H4 σ4 A4 s4 st4 p4 => k G4 H4 σ4 A4 (s03.seq0 s4) st4 (p3.trans p4)
    | rt r => cases hl; exact fun G4 H4 σ4 v Av A4 s4 st4 o4 nd4 p4 => k G4 H4 σ4 v Av A4 (s03.seq0 s4) st4 o4 nd4 (p3.trans p4)
  · have hie : i = ds.length := by omega
    subst hie
    rw [List.drop_length] at hl
    cases hl
    obtain ⟨G4, A4, s4, st4⟩ := stt_le l2 stc
    exact .inl ⟨wk.stops Hc sub1, k G4 Hc σc A4 (sc.seq0 s4) st4 pc⟩
theorem DS.wh {tc : TT} {ml : List Ty} {fuel : Nat} (l0 : LeM m ml) (hc : DT K ml tc bf m1) (hb : DS K { M with b := mn, c := ml } m1 t f ml) (l2 : LeM m1 mn) : DS K M m (tWhile tc t) (sWh fuel bf f) mn := by
  intro G H σ e A o e' D st hf k
  obtain ⟨G2, A2, s2, st2⟩ := stt_le l0 st
  refine ⟨fun i σc Hc => ∃ Gc ec A', Step A G H A' Gc Hc ∧ Stt K ml Gc Hc σc ec A' ∧ Pin M.po σ σc ∧ whL bf f i ec = some (o, e'), ⟨fuel, G2, e, A2, s2, st2, Pin.refl, hf⟩, ?_⟩
  rintro i σc Hc ⟨Gc, ec, A', sc, stc, pc, hl⟩
  cases i with
  | zero => cases hl
  | succ i =>
    unfold whL at hl
    obtain ⟨⟨b, e2⟩, hl1, hl⟩ := oBs hl
    refine hc stc hl1 fun G3 H3 A3 s3 st3 => ?_
    cases b with
    | true =>
      rw [if_pos rfl] at hl ⊢
      obtain ⟨⟨o3, e3⟩, hl2, hl⟩ := oBs hl
      refine ⟨fun σn Hn => ∃ Gc ec A', Step A G H A' Gc Hn ∧ Stt K ml Gc Hn σn ec A' ∧ Pin M.po σ σn ∧ whL bf f i ec = some (o, e'), fun σn Hn hn => ⟨i, Nat.lt_succ_self i, hn⟩, hb st3 hl2 ?_⟩
      have s03 := sc.seq0 s3
      cases o3 with
      | nx => exact fun G4 H4 σ4 A4 s4 st4 p4 => ⟨G4, e3, A4, s03.seq0 s4, st4, pc.trans p4, hl⟩
      | ct => exact fun G4 H4 σ4 A4 s4 st4 p4 => ⟨G4, e3, A4, s03.seq0 s4, st4, pc.trans p4, hl⟩
      | bk => cases hl; exact fun G4 H4 σ4 A4 s4 st4 p4 => k G4 H4 σ4 A4 (s03.seq0 s4) st4 (pc.trans p4)
      | rt r => cases hl; exact fun G4 H4 σ4 v Av A4 s4 st4 o4 nd4 p4 => k G4 H4 σ4 v Av A4 (s03.seq0 s4) st4 o4 nd4 (pc.trans p4)
    | false =>
      rw [if_neg (by simp)] at hl ⊢
      cases hl
      obtain ⟨G4, A4, s4, st4⟩ := stt_le l2 st3
      exact k G4 H3 σc A4 ((sc.seq0 s3).seq0 s4) st4 pc
end
section
variable {ι : Type} {Xf : ι → Cx} {P : Program} {w : World} {K : PySem.W.Frag} {mg : Str → Option Value} {base : Heap} {n : Nat} [F : Fam Xf P w K mg base n]
variable {M : Mk} {m m1 m2 mn ml : List Ty} {pos p p2 spos : Pos} {a b c v tg iter : Expr} {st : Stmt} {rest body orelse : List Stmt} {f g : Sf} {ef : Ef} {bf : Bf} {lf : Lf} {gf : Gf} {sl : List Nat} {ty : Ty}
theorem ss_nil : PSsd Xf K M m [] sNil m := ⟨_, fun i => pss_nil, DS.nil⟩
theorem ss_cons (h1 : PSd Xf K M m st f m1) (h2 : PSsd Xf K M m1 rest g mn) : PSsd Xf K M m (st :: rest) (sSeq f g) mn := by
  obtain ⟨t, p, d⟩ := h1.ex
  obtain ⟨u, q, d2⟩ := h2.ex
  exact ⟨_, fun i => pss_cons (p i) (q i), DS.seq d d2⟩
theorem ss_one (h1 : PSd Xf K M m st f m1) : PSsd Xf K M m [st] f m1 := by
  obtain ⟨t, p, d⟩ := h1.ex
  exact ⟨_, fun i => pss_one (p i), d⟩
theorem ss_le (h : PSsd Xf K M m rest f m1) (l : LeM m1 mn) : PSsd Xf K M m rest f mn := by
  obtain ⟨t, p, d⟩ := h.ex
  exact ⟨_, p, d.le l⟩
theorem ds_ret (he : PD Xf K m v M.ty ef m1) (l : LeM m1 M.r) : PSd Xf K M m (.Return (some v) pos) (sRet ef) mn := by
  obtain ⟨t, p, d⟩ := he.ex
  exact ⟨_, fun i => ps_ret (p i), DS.ret d l⟩
theorem ds_if (hc : PB Xf K m c bf m1) (ha : PSsd Xf K M m1 body f mn) (hb : PSsd Xf K M m1 orelse g mn) : PSd Xf K M m (.If c body orelse pos) (sIf bf f g) mn := by
  obtain ⟨t, p, d⟩ := hc.ex
  obtain ⟨t1, p1, d1⟩ := ha.ex
  obtain ⟨t2, p2, d2⟩ := hb.ex
  exact ⟨_, fun i => ps_if (p i) (p1 i) (p2 i), DS.ite d d1 d2⟩
theorem ds_drop (he : PD Xf K m v ty ef m1) (hs : ∀ i, swapsWith v none pos.line (Xf i).env = pure false := by intro _; rfl) : PSd Xf K M m (.Expr v pos) (sDrop ef) m1 := by
  obtain ⟨t, p, d⟩ := he.ex
  exact ⟨_, fun i => ps_expr (p i) (hs i), DS.drop d⟩
include F in
theorem ds_asg (j : Nat) {x : Str} {pos' : Pos} (he : PD Xf K m v ty ef m1) (hj : j < m1.length := by first | decide | rfl | simp) (hp : j ∉ M.po := by first | decide | rfl | simp) (hi : ∀ i, (Xf i).N[j]? = some x := by intro _; rfl) (hx : ∀ i, Loc (Xf i).env.scope x := by first | (intro _; exact Or.inl rfl) | (intro _; exact Or.inr rfl))
    (hs : ∀ i, swapsWith v (some (.Name x pos')) pos.line (Xf i).env = pure false := by intro _; rfl) (hf : ∀ i, (Xf i).fn x = true ∨ (Xf i).env.scope.names.lookup x = some .local := by first | (intro _; exact Or.inl rfl) | (intro _; exact Or.inr rfl)) :
    PSd Xf K M m (.Assign [.Name x pos'] v pos) (sAsg j ef) (m1.set j ty) := by
  obtain ⟨t, p, d⟩ := he.ex
  exact ⟨_, fun i => ps_set (F.nd i) (hi i) (hx i) (p i) (hs i) (hf i), DS.asg d hj hp⟩
theorem ds_tg (he : PD Xf K m v .s ef m1) (hg : PGD Xf K false m1 tg sl gf m2) (hp : ∀ j ∈ M.po, j ∉ sl := by first | decide | rfl | simp) (hs : ∀ i, swapsWithSole [tg] v pos.line (Xf i).env = pure false := by intro _; rfl) (hw : ∀ i, swappedStores [tg] v (Xf i).env = pure none := by intro _; rfl)
    (h1 : ∀ i, (assignEach [tg] (Xf i).env).map (·.2) = [assign tg (Xf i).env] := by intro _; rfl) : PSd Xf K M m (.Assign [tg] v pos) (sTg ef gf) m2 := by
  obtain ⟨t, p, d⟩ := he.ex
  obtain ⟨t2, p2, d2⟩ := hg.ex
  exact ⟨_, fun i => ps_asg (p i) (p2 i) (hs i) (hw i) (h1 i), DS.tg d d2 hp⟩
include F in
theorem ds_for [FG : FamG Xf] {wk : Bool} [FN : FamN Xf] (ml : List Ty) (hi : PIt Xf K wk m tg iter lf m1) (l1 : LeM m1 ml) (hg : PGD Xf K wk ml tg sl gf m2) (hb : PSsd Xf K { M with b := mn, c := ml } m2 body f ml) (l2 : LeM ml mn) (hp : ∀ j ∈ M.po, j ∉ sl := by first | decide | rfl | simp)
    (hs : ∀ i x, foldedSetIterable iter (Xf i).env x = pure x := by intro _ _; rfl) : PSd Xf K M m (.For tg iter body [] pos) (sFor lf gf f) mn := by
  obtain ⟨wi, pi, di⟩ := hi.ex
  obtain ⟨g, pg, dg⟩ := hg.ex
  obtain ⟨t, p, d⟩ := hb.ex
  exact ⟨_, fun i => ps_for (FN.ps i) (FG.calm i) (pi i) (pg i) (p i) (hs i), DS.for di l1 dg d l2 hp⟩
theorem ds_wh [FN : FamN Xf] (fuel : Nat) (ml : List Ty) (l0 : LeM m ml) (hc : PB Xf K ml c bf m1) (hb : PSsd Xf K { M with b := mn, c := ml } m1 body f ml) (l2 : LeM m1 mn) : PSd Xf K M m (.While c body [] pos) (sWh fuel bf f) mn := by
  obtain ⟨t, p, d⟩ := hc.ex
  obtain ⟨t2, p2, d2⟩ := hb.ex
  exact ⟨_, fun i => ps_while (FN.ps i) (p i) (p2 i), DS.wh l0 d d2 l2⟩
include F in
theorem ds_setLc [FG : FamG Xf] {wk : Bool} (j : Nat) {x : Str} {py : Pos} {elt : Expr} {ifs : List Expr} {scope : Scope} {tf : Bf} (own : List (Str × Nat)) (hi : PIt Xf K wk m tg iter lf m1) (hg : PGD (blkF Xf scope) K wk (hideM m1 (own.map (·.2))) tg sl gf m2) (ht : PTsD (blkF Xf scope) K m2 ifs tf) (he : PD (blkF Xf scope) K m2 elt ty ef m2)
    (ok : ∀ i, BlkOk (Xf i).N (Xf i).env.scope scope own := by intro _; exact blkOk_by (by rfl)) (us : usB m1 (own.map (·.2)) = true := by rfl) (hs : ∀ j ∈ sl, j ∈ own.map (·.2) := by decide) (le : LeM m2 (hideM m1 (own.map (·.2))) := by repeat (first | exact .nil | refine .cons (by first | exact .rfl _ | exact .u _) ?_))
    (hj : j < m1.length := by first | decide | rfl | simp) (hp : j ∉ M.po := by first | decide | rfl | simp) (hN : ∀ i, (Xf i).N[j]? = some x := by intro _; rfl) (hyl : ∀ i, (Xf i).env.scope.names.lookup x = some .local := by intro _; rfl)
    (hsw : ∀ i, swapsWith (.ListComp elt [⟨tg, iter, ifs, 0⟩] scope pos) (some (.Name x py)) spos.line (Xf i).env = pure true := by intro _; exact sw_true rfl rfl (by rfl) (by rfl))
    (hf : ∀ i x, foldedSetIterable iter (Xf i).env x = pure x := by intro _ _; rfl) : PSd Xf K M m (.Assign [.Name x py] (.ListComp elt [⟨tg, iter, ifs, 0⟩] scope pos) spos) (sAsg j (eLc lf (own.map (·.2)) gf tf ef)) (m1.set j (.l ty)) := by
  obtain ⟨wi, pi, di⟩ := hi.ex
  obtain ⟨g, pg, dg⟩ := hg.ex
  obtain ⟨tt, pt, dt⟩ := ht.ex
  obtain ⟨te, pe, de⟩ := he.ex
  exact ⟨_, fun i => ps_setLc (FG.calm i) (F.nd i) (hN i) (hyl i) (hsw i) (pi i) (ok i) (fun s H C cl fp => pg ⟨i, s, H, C, cl, fp⟩) (fun s H C cl fp => pt ⟨i, s, H, C, cl, fp⟩) (fun s H C cl fp => pe ⟨i, s, H, C, cl, fp⟩) (hf i), DS.asg (DE.lc di dg dt de us hs le) hj hp⟩
end
end DL
namespace DL
open PySem L2 PySem.Spec
def eApp (j : Nat) (f : Ef) : Ef := fun e => (f e).bind fun p => match e.getD j .none with
  | .list ds => if ds.length < sizeLine then some (.none, p.2.set j (.list (ds ++ [p.1]))) else none
  | _ => none
def eAppV (g : Gq) (pt : Pf) (gv : Gq) : Ef := fun e => (g e).bind fun d => (gv e).bind fun x => match d with
  | .list ds => if ds.length < sizeLine then some (.none, pt e (.list (ds ++ [x]))) else none
  | _ => none
def ePop (g : Gq) (pt : Pf) : Ef := fun e => (g e).bind fun d => match d with
  | .list ds => (ds[ds.length - 1]?).map fun x => (x, pt e (.list ds.dropLast))
  | _ => none
def ePopAt (g : Gq) (pt : Pf) (gi : Gq) : Ef := fun e => (g e).bind fun d => (gi e).bind fun i => match d, i with
  | .list ds, .int k => if -(2 ^ 63) ≤ k ∧ k < 2 ^ 63 then (ixN ds.length k).bind fun j => (ds[j]?).map fun x => (x, pt e (.list (ds.eraseIdx j))) else none
  | _, _ => none
def sSet (g : Gq) (pt : Pf) (gi : Gq) (f : Ef) : Sf := fun e => (f e).bind fun p => (g p.2).bind fun d => (gi p.2).bind fun i => match d, i with
  | .list ds, .int k => (ixN ds.length k).map fun j => (.nx, pt p.2 (.list (ds.set j p.1)))
  | _, _ => none
def eItm (g gi : Gq) : Ef := fun e => (g e).bind fun d => (gi e).bind fun i => (itemD d i).map fun x => (x, e)
theorem ite_some2 {α : Type} {c : Prop} [Decidable c] {a : Option α} {b : α} (h : (if c then a else none) = some b) : c ∧ a = some b := by
  split at h
  · rename_i hc; exact ⟨hc, h⟩
  · cases h
section
variable {K : PySem.W.Frag} {G H G1 H1 : Hp} {m m1 m2 mn : List Ty} {σ : St} {e : En} {A A1 : List Addr} {t : Ty} {ts : List Ty}
theorem ownA_erase {ds : List PyData} {vs : List (Option V)} {t : Ty} : ∀ {n : Nat} {ds : List PyData} {vs : List (Option V)} {A : List Addr} {j : Nat} {d : PyData}, OwnA K G H (List.replicate n t) ds vs A → ds[j]? = some d →
    ∃ v Aj A0, vs[j]? = some v ∧ Own K G H t d v Aj ∧ OwnA K G H (List.replicate (n - 1) t) (ds.eraseIdx j) (vs.eraseIdx j) A0 ∧ A.Perm (Aj ++ A0)
  | 0, _, _, _, j, d, h, hd => by cases h; simp at hd
  | n + 1, _, _, _, j, d, h, hd => by
    cases h with
    | @cons _ _ d0 ds v0 vs A B h1 h2 =>
      cases j with
      | zero =>
        simp at hd; subst hd
        exact ⟨v0, A, B, rfl, h1, by simpa using h2, List.Perm.refl _⟩
      | succ j =>
        have hd : ds[j]? = some d := by simpa using hd
        obtain ⟨v, Aj, A0, e1, o1, o2, p⟩ := ownA_erase (ds := ds) (vs := vs) h2 hd
        have hn : 0 < n := by
          have a := (ownA_len h2).1
          rw [List.length_replicate] at a
          have := (List.getElem?_eq_some_iff.mp hd).1
          omega
        refine ⟨v, Aj, A ++ A0, by simpa using e1, o1, ?_, ?_⟩
        · have := OwnA.cons h1 o2
          rw [← List.replicate_succ, show n - 1 + 1 = n by omega] at this
          simpa using this
        · exact (List.Perm.append_left A p).trans (by rw [← List.append_assoc, ← List.append_assoc]; exact List.Perm.append_right _ List.perm_append_comm)
theorem replicate_snoc {n : Nat} {t : Ty} : List.replicate n t ++ [t] = List.replicate (n + 1) t := by rw [List.replicate_succ']
theorem DE.app {te : TE} {f : Ef} {j : Nat} (hm : m[j]? = some (.l t)) (he : DE K (m.set j .u) te t f m1) (hm1 : m1[j]? = some .u) : DE K m (tBM K "list" rAppend (tVar j) (tCons te tNil)) .s (eApp j f) (m1.set j (.l t)) := by
  intro G H σ e A d e' Q st hf k
  obtain ⟨⟨dx, e1⟩, hf1, hf⟩ := oBs hf
  obtain ⟨dj, vj, Aj, A0, h1, h2, h3, h4, hp⟩ := ownA_take st.own hm
  have nd := hp.nodup_iff.mp st.nd
  have st0 : Stt K (m.set j .u) G H σ e A0 := ⟨h4, (List.nodup_append.mp nd).2.1, st.sub⟩
  cases h3 with
  | @l _ a vs ds Ai ga ha hz oi =>
    have ed : e.getD j .none = .list ds := by rw [List.getD_eq_getElem?_getD, h1]; rfl
    rw [ed] at hf
    obtain ⟨hlt, hf⟩ := ite_some hf
    cases hf
    refine ⟨.ref a, h2, .inl ⟨rfl, _, .inl (.inl ha)⟩, ?_⟩
    refine he st0 hf1 fun G1 H1 x Av A1 s1 st1 ov ndv => ?_
    have s0 : Step A G H ((a :: Ai) ++ A0) G H := ⟨Same.refl G, fun _ _ h _ => h, fun b hb => .inl (hp.mem_iff.mpr hb), fun b h ⟨o, z⟩ => by rw [h] at z; cases z⟩
    have oj : Own K G H (.l t) (.list ds) (some (.ref a)) (a :: Ai) := .l ga ha hz oi
    obtain ⟨s2, nd2, hg, hh⟩ := s0.seq (own_at oj) nd s1 ndv
    have ha1 : H1 a = some (.lst vs) := by rw [hh a (List.mem_cons_self ..)]; exact ha
    have ga1 : G1 a = none := hg a (List.mem_cons_self ..)
    have oi1 := ownA_fr oi s1.sg (fun b hb => hg b (List.mem_cons_of_mem _ hb)) fun b hb => hh b (List.mem_cons_of_mem _ hb)
    have len : vs.length = ds.length := by have := (ownA_len oi).2; simpa using this
    refine ⟨a, vs, x, rfl, rfl, ha1, by omega, ?_⟩
    have nda : a ∉ Ai ++ (Av ++ A1) := by
      have := nd2
      rw [List.cons_append] at this
      exact (List.nodup_cons.mp this).1
    have fr : ∀ b, b ≠ a → upd H1 a (.lst (vs ++ [x])) b = H1 b := fun b hb => upd_ne hb
    have ne : ∀ b ∈ Ai ++ (Av ++ A1), b ≠ a := fun b hb z => nda (z ▸ hb)
    have i1 := ownA_fr (H' := upd H1 a (.lst (vs ++ [x]))) oi1 (Same.refl G1) (fun b hb => (ownA_at oi1 b hb).1) fun b hb => fr b (ne b (List.mem_append_left _ hb))
    have i2 := own_fr (H' := upd H1 a (.lst (vs ++ [x]))) ov (Same.refl G1) (fun b hb => (own_at ov b hb).1) fun b hb => fr b (ne b (List.mem_append_right _ (List.mem_append_left _ hb)))
    have i3 := ownA_snoc i1 i2
    rw [replicate_snoc] at i3
    have oN : Own K G1 (upd H1 a (.lst (vs ++ [x]))) (.l t) (.list (ds ++ [dx])) (some (.ref a)) (a :: (Ai ++ Av)) := .l ga1 upd_same (by rw [List.length_append, List.length_singleton]; omega) (by rw [List.length_append, List.length_singleton, List.map_append]; exact i3)
    have i4 := ownA_fr (H' := upd H1 a (.lst (vs ++ [x]))) st1.own (Same.refl G1) (fun b hb => (ownA_at st1.own b hb).1) fun b hb => fr b (ne b (List.mem_append_right _ (List.mem_append_right _ hb)))
    obtain ⟨A2, o2, p2⟩ := ownA_put i4 hm1 oN
    rw [set_id (l := σ) h2] at o2
    have pA : A2.Perm ((a :: Ai) ++ (Av ++ A1)) := p2.trans (List.perm_iff_count.mpr fun z => by simp only [List.count_append, List.count_cons, List.cons_append]; omega)
    refine k G1 _ .non [] A2 ⟨s2.sg, fun b o hb hbA => ?_, fun b hb => s2.own b (pA.mem_iff.mp hb), s2.gnew⟩ ⟨o2, pA.nodup_iff.mpr nd2, fun b o hb => ?_⟩ (.s .non) (pA.nodup_iff.mpr nd2)
    · rw [fr b (fun z => hbA (z ▸ hp.mem_iff.mpr (List.mem_append_left _ (List.mem_cons_self ..))))]
      exact s2.fr b o hb hbA
    · rw [fr b (ne_of_none hb ga1)]; exact st1.sub b o hb
theorem pl_wrote {a : Addr} {Ad Ar Ad' : List Addr} {pt : Pf} {ty : Ty} {d d' : PyData} {H2 : Hp} {u : HO} (st : Stt K m G H σ e A) (hp : A.Perm (Ad ++ Ar)) (o1 : Own K G H ty d (some (.ref a)) Ad)
    (back : ∀ {G' H' : Hp} {d' : PyData} {Ad' : List Addr}, Same G G' → Own K G' H' ty d' (some (.ref a)) Ad' → (∀ b ∈ Ar, H' b = H b ∧ G' b = none) → ∃ A', OwnA K G' H' m (pt e d') σ A' ∧ A'.Perm (Ad' ++ Ar))
    (s : Same H H2) (hin : a ∈ Ad) (o2 : Own K G (upd H2 a u) ty d' (some (.ref a)) Ad') (sub : ∀ b ∈ Ad', b ∈ Ad) (nd' : Ad'.Nodup) :
    ∃ A', Step A G H A' G (upd H2 a u) ∧ Stt K m G (upd H2 a u) σ (pt e d') A' ∧ ∀ b ∈ A', b ∈ Ad' ++ Ar := by
  have nd := hp.nodup_iff.mp st.nd
  have n := List.nodup_append.mp nd
  have ga : G a = none := (own_at o1 a hin).1
  have atA : ∀ b ∈ A, G b = none ∧ ∃ o, H b = some o := ownA_at st.own
  obtain ⟨A', oA, pA⟩ := back (Same.refl G) o2 fun b hb => by
    have hbA := hp.mem_iff.mpr (List.mem_append_right Ad hb)
    obtain ⟨gb, o, ho⟩ := atA b hbA
    refine ⟨?_, gb⟩
    rw [upd_ne (fun z => n.2.2 a hin b hb z.symm), s b o ho, ho]
  have ndA : A'.Nodup := pA.nodup_iff.mpr (List.nodup_append.mpr ⟨nd', n.2.1, fun x hx y hy z => n.2.2 x (sub x hx) y hy z⟩)
  have inA : ∀ b ∈ A', b ∈ A := fun b hb => hp.mem_iff.mpr ((List.mem_append.mp (pA.mem_iff.mp hb)).elim (fun z => List.mem_append_left _ (sub b z)) fun z => List.mem_append_right _ z)
  refine ⟨A', ⟨Same.refl G, fun b o hb hbA => ?_, fun b hb => .inl (inA b hb), fun b h1 ⟨o, h2⟩ => by rw [h1] at h2; cases h2⟩, ⟨oA, ndA, fun b o hb => ?_⟩, fun b hb => pA.mem_iff.mp hb⟩
  · have hne : b ≠ a := fun z => hbA (by rw [z]; exact hp.mem_iff.mpr (List.mem_append_left _ hin))
    rw [upd_ne hne]; exact s b o hb
  · rw [upd_ne (ne_of_none hb ga)]; exact s b o (st.sub b o hb)
theorem DE.pop {te : TE} {g : Gq} {pt : Pf} (hp : DPl K m te (.l t) g pt) : DE K m (tBM0 K "list" rPop te) t (ePop g pt) m := by
  intro G H σ e A d e' Q st hf k
  obtain ⟨dl, h1, hf⟩ := oBs hf
  obtain ⟨a, Ad, Ar, hp1, o1, ev, back⟩ := hp st h1
  have o1' := o1
  cases o1 with
  | @l _ _ vs ds Ai ga ha hz oi =>
    obtain ⟨x, hx, hf⟩ := Option.map_eq_some_iff.mp hf
    cases hf
    have len : vs.length = ds.length := by have := (ownA_len oi).2; simpa using this
    obtain ⟨v, Aj, A0, e1, oj, o0, pj⟩ := ownA_erase (ds := ds) (vs := vs.map some) oi hx
    rw [List.getElem?_map] at e1
    obtain ⟨w, hw, e2⟩ := Option.map_eq_some_iff.mp e1
    subst e2
    refine ev fun H1 s1 => ⟨.inl ⟨rfl, _, .inl (.inl (s1 _ _ ha))⟩, a, vs, w, rfl, rfl, s1 _ _ ha, by rw [len]; exact hw, ?_⟩
    have nd := hp1.nodup_iff.mp st.nd
    have n := List.nodup_append.mp nd
    have n1 := List.nodup_cons.mp n.1
    have n2 := List.nodup_append.mp (pj.nodup_iff.mp n1.2)
    have inI : ∀ b, b ∈ Aj ++ A0 → b ∈ Ai := fun b hb => pj.mem_iff.mpr hb
    have hfr : ∀ b ∈ Ai, upd H1 a (.lst vs.dropLast) b = H b := fun b hb => by
      obtain ⟨_, o, ho⟩ := ownA_at oi b hb
      have hne : b ≠ a := fun z => n1.1 (by rw [← z]; exact hb)
      rw [upd_ne hne, s1 b o ho, ho]
    have gfr : ∀ b ∈ Ai, G b = none := fun b hb => (ownA_at oi b hb).1
    have hne : ds ≠ [] := fun z => by rw [z] at hx; simp at hx
    have edr : ds.eraseIdx (ds.length - 1) = ds.dropLast := by rw [List.eraseIdx_eq_take_drop_succ, show ds.length - 1 + 1 = ds.length by have := List.length_pos_iff.mpr hne; omega, List.drop_length, List.append_nil, ← List.dropLast_eq_take]
    have evr : (vs.map some).eraseIdx (ds.length - 1) = vs.dropLast.map some := by
      rw [← len, List.eraseIdx_eq_take_drop_succ]
      have : vs.length - 1 + 1 = vs.length := by have := List.length_pos_iff.mpr hne; omega
      rw [this, List.drop_eq_nil_of_le (by simp), List.append_nil, List.dropLast_eq_take, List.map_take]
    rw [edr, evr] at o0
    have oN : Own K G (upd H1 a (.lst vs.dropLast)) (.l t) (.list ds.dropLast) (some (.ref a)) (a :: A0) := .l ga upd_same (by rw [List.length_dropLast]; omega) (by
      rw [List.length_dropLast]
      exact ownA_fr o0 (Same.refl G) (fun b hb => gfr b (inI b (List.mem_append_right _ hb))) fun b hb => hfr b (inI b (List.mem_append_right _ hb)))
    obtain ⟨A2, s3, st3, inA⟩ := pl_wrote (u := .lst vs.dropLast) (Ad' := a :: A0) st hp1 o1' back s1 (List.mem_cons_self ..) oN (fun b hb => by
      rcases List.mem_cons.mp hb with z | z
      · rw [z]; exact List.mem_cons_self ..
      · exact List.mem_cons_of_mem _ (inI b (List.mem_append_right _ z))) (List.nodup_cons.mpr ⟨fun z => n1.1 (inI _ (List.mem_append_right _ z)), n2.2.1⟩)
    have oj2 := own_fr (H' := upd H1 a (.lst vs.dropLast)) oj (Same.refl G) (fun b hb => gfr b (inI b (List.mem_append_left _ hb))) fun b hb => hfr b (inI b (List.mem_append_left _ hb))
    refine k G _ w Aj A2 ⟨s3.sg, s3.fr, fun b hb => ?_, s3.gnew⟩ st3 oj2 ?_
    · rcases List.mem_append.mp hb with z | z
      · exact .inl (hp1.mem_iff.mpr (List.mem_append_left _ (List.mem_cons_of_mem _ (inI b (List.mem_append_left _ z)))))
      · exact s3.own b z
    · refine List.nodup_append.mpr ⟨n2.1, st3.nd, fun x hx y hy z => ?_⟩
      subst z
      rcases List.mem_append.mp (inA x hy) with q | q
      · rcases List.mem_cons.mp q with q | q
        · exact n1.1 (q ▸ inI x (List.mem_append_left _ hx))
        · exact n2.2.2 x hx x q rfl
      · exact n.2.2 x (List.mem_cons_of_mem _ (inI x (List.mem_append_left _ hx))) x q rfl
theorem DE.popAt {te ti : TE} {g gi : Gq} {pt : Pf} (hp : DPl K m te (.l t) g pt) (hi : DQv K m ti gi) : DE K m (tBM K "list" rPopAt te (tCons ti tNil)) t (ePopAt g pt gi) m := by
  intro G H σ e A d e' Q st hf k
  obtain ⟨dl, h1, hf⟩ := oBs hf
  obtain ⟨di, h2, hf⟩ := oBs hf
  obtain ⟨a, Ad, Ar, hp1, o1, ev, back⟩ := hp st h1
  have o1' := o1
  cases o1 with
  | @l _ _ vs ds Ai ga ha hz oi =>
    cases di with
    | int i =>
      obtain ⟨hr, hf⟩ := ite_some2 hf
      obtain ⟨j, hj, hf⟩ := oBs hf
      obtain ⟨x, hx, hf⟩ := Option.map_eq_some_iff.mp hf
      cases hf
      have len : vs.length = ds.length := by have := (ownA_len oi).2; simpa using this
      obtain ⟨v, Aj, A0, e1, oj, o0, pj⟩ := ownA_erase (ds := ds) (vs := vs.map some) oi hx
      rw [List.getElem?_map] at e1
      obtain ⟨w, hw, e2⟩ := Option.map_eq_some_iff.mp e1
      subst e2
      refine ev fun H1 s1 => ⟨.inl ⟨rfl, _, .inl (.inl (s1 _ _ ha))⟩, hi (stt_grow st s1).2 h2 fun H2 y s2 qy => ?_⟩
      cases qy
      have s12 := s1.trans s2
      refine ⟨a, vs, i, j, w, rfl, rfl, s12 _ _ ha, hr.1, hr.2, by rw [len]; exact (ixN_seq hj).1, hw, ?_⟩
      have nd := hp1.nodup_iff.mp st.nd
      have n := List.nodup_append.mp nd
      have n1 := List.nodup_cons.mp n.1
      have n2 := List.nodup_append.mp (pj.nodup_iff.mp n1.2)
      have inI : ∀ b, b ∈ Aj ++ A0 → b ∈ Ai := fun b hb => pj.mem_iff.mpr hb
      have hfr : ∀ b ∈ Ai, upd H2 a (.lst (vs.eraseIdx j)) b = H b := fun b hb => by
        obtain ⟨_, o, ho⟩ := ownA_at oi b hb
        have hne : b ≠ a := fun z => n1.1 (by rw [← z]; exact hb)
        rw [upd_ne hne, s12 b o ho, ho]
      have gfr : ∀ b ∈ Ai, G b = none := fun b hb => (ownA_at oi b hb).1
      have hjl : j < ds.length := (List.getElem?_eq_some_iff.mp hx).1
      have evr : (vs.map some).eraseIdx j = (vs.eraseIdx j).map some := by
        rw [List.eraseIdx_eq_take_drop_succ, List.eraseIdx_eq_take_drop_succ, List.map_append, List.map_take, List.map_drop]
      rw [evr] at o0
      have oN : Own K G (upd H2 a (.lst (vs.eraseIdx j))) (.l t) (.list (ds.eraseIdx j)) (some (.ref a)) (a :: A0) := .l ga upd_same (by have := len_erase vs j; omega) (by
        rw [List.length_eraseIdx, if_pos hjl]
        exact ownA_fr o0 (Same.refl G) (fun b hb => gfr b (inI b (List.mem_append_right _ hb))) fun b hb => hfr b (inI b (List.mem_append_right _ hb)))
      obtain ⟨A2, s3, st3, inA⟩ := pl_wrote (u := .lst (vs.eraseIdx j)) (Ad' := a :: A0) st hp1 o1' back s12 (List.mem_cons_self ..) oN (fun b hb => by
        rcases List.mem_cons.mp hb with z | z
        · rw [z]; exact List.mem_cons_self ..
        · exact List.mem_cons_of_mem _ (inI b (List.mem_append_right _ z))) (List.nodup_cons.mpr ⟨fun z => n1.1 (inI _ (List.mem_append_right _ z)), n2.2.1⟩)
      have oj2 := own_fr (H' := upd H2 a (.lst (vs.eraseIdx j))) oj (Same.refl G) (fun b hb => gfr b (inI b (List.mem_append_left _ hb))) fun b hb => hfr b (inI b (List.mem_append_left _ hb))
      refine k G _ w Aj A2 ⟨s3.sg, s3.fr, fun b hb => ?_, s3.gnew⟩ st3 oj2 ?_
      · rcases List.mem_append.mp hb with z | z
        · exact .inl (hp1.mem_iff.mpr (List.mem_append_left _ (List.mem_cons_of_mem _ (inI b (List.mem_append_left _ z)))))
        · exact s3.own b z
      · refine List.nodup_append.mpr ⟨n2.1, st3.nd, fun x hx y hy z => ?_⟩
        subst z
        rcases List.mem_append.mp (inA x hy) with q | q
        · rcases List.mem_cons.mp q with q | q
          · exact n1.1 (q ▸ inI x (List.mem_append_left _ hx))
          · exact n2.2.2 x hx x q rfl
        · exact n.2.2 x (List.mem_cons_of_mem _ (inI x (List.mem_append_left _ hx))) x q rfl
    | _ => cases hf
end
end DL
namespace DL
open PySem L2 PySem.Spec
section
variable {K : PySem.W.Frag} {G H G1 H1 : Hp} {m m1 m2 mn : List Ty} {σ : St} {e : En} {A A1 : List Addr} {t : Ty} {ts : List Ty} {M : Mk}
theorem pl_wrote2 {a : Addr} {Av Ad Ar Ad' : List Addr} {pt : Pf} {ty tv : Ty} {d d' dv : PyData} {v : Option V} {H2 : Hp} {u : HO} (s1 : Step A G H (Av ++ A1) G1 H1) (st : Stt K m G1 H1 σ e A1) (ov : Own K G1 H1 tv dv v Av) (ndv : (Av ++ A1).Nodup) (hp : A1.Perm (Ad ++ Ar)) (o1 : Own K G1 H1 ty d (some (.ref a)) Ad)
    (back : ∀ {G' H' : Hp} {d' : PyData} {Ad' : List Addr}, Same G1 G' → Own K G' H' ty d' (some (.ref a)) Ad' → (∀ b ∈ Ar, H' b = H1 b ∧ G' b = none) → ∃ A', OwnA K G' H' m (pt e d') σ A' ∧ A'.Perm (Ad' ++ Ar))
    (s : Same H1 H2) (hin : a ∈ Ad) (o2 : Own K G1 (upd H2 a u) ty d' (some (.ref a)) Ad') (sub : ∀ b ∈ Ad', b ∈ Av ∨ b ∈ Ad) (nd' : Ad'.Nodup) :
    ∃ A', Step A G H A' G1 (upd H2 a u) ∧ Stt K m G1 (upd H2 a u) σ (pt e d') A' := by
  have nv := List.nodup_append.mp ndv
  have nd := hp.nodup_iff.mp nv.2.1
  have n := List.nodup_append.mp nd
  have ga : G1 a = none := (own_at o1 a hin).1
  have haA : a ∈ A1 := hp.mem_iff.mpr (List.mem_append_left _ hin)
  obtain ⟨A', oA, pA⟩ := back (Same.refl G1) o2 fun b hb => by
    have hbA := hp.mem_iff.mpr (List.mem_append_right Ad hb)
    obtain ⟨gb, o, ho⟩ := ownA_at st.own b hbA
    have hne : b ≠ a := fun z => n.2.2 a hin b hb z.symm
    refine ⟨?_, gb⟩
    rw [upd_ne hne, s b o ho, ho]
  have ndA : A'.Nodup := pA.nodup_iff.mpr (List.nodup_append.mpr ⟨nd', n.2.1, fun x hx y hy z => by
    rcases sub x hx with q | q
    · exact nv.2.2 x q y (hp.mem_iff.mpr (List.mem_append_right _ hy)) z
    · exact n.2.2 x q y hy z⟩)
  have inA : ∀ b ∈ A', b ∈ Av ++ A1 := fun b hb => by
    rcases List.mem_append.mp (pA.mem_iff.mp hb) with z | z
    · rcases sub b z with q | q
      · exact List.mem_append_left _ q
      · exact List.mem_append_right _ (hp.mem_iff.mpr (List.mem_append_left _ q))
    · exact List.mem_append_right _ (hp.mem_iff.mpr (List.mem_append_right _ z))
  refine ⟨A', ⟨s1.sg, fun b o hb hbA => ?_, fun b hb => s1.own b (inA b hb), s1.gnew⟩, ⟨oA, ndA, fun b o hb => ?_⟩⟩
  · have hne : b ≠ a := fun z => by
      rcases s1.own a (List.mem_append_right _ haA) with q | q
      · exact hbA (by rw [z]; exact q)
      · rw [← z, hb] at q; cases q
    rw [upd_ne hne]; exact s b o (s1.fr b o hb hbA)
  · rw [upd_ne (ne_of_none hb ga)]; exact s b o (st.sub b o hb)
theorem own_set {n j : Nat} {ts : List Ty} {ds : List PyData} {vs : List V} {Ai Av : List Addr} {dx : PyData} {x : V} {H3 : Hp} (oi : OwnA K G H ts ds (vs.map some) Ai) (ht : ts[j]? = some t) (ov : Own K G H t dx (some x) Av)
    (hf : ∀ b ∈ Ai, H3 b = H b) (hv : ∀ b ∈ Av, H3 b = H b) : ∃ A2, OwnA K G H3 ts (ds.set j dx) ((vs.set j x).map some) A2 ∧ ∃ A0 Aj : List Addr, A2.Perm (Av ++ A0) ∧ Ai.Perm (Aj ++ A0) := by
  obtain ⟨d0, v0, Aj, A0, e1, e2, oj, oR, pj⟩ := ownA_take oi ht
  have hu : (ts.set j .u)[j]? = some .u := by rw [List.getElem?_set_self (List.getElem?_eq_some_iff.mp ht).1]
  have inI : ∀ b ∈ A0, b ∈ Ai := fun b hb => pj.mem_iff.mpr (List.mem_append_right _ hb)
  obtain ⟨A2, o2, p2⟩ := ownA_put (ownA_fr (H' := H3) oR (Same.refl G) (fun b hb => (ownA_at oi b (inI b hb)).1) fun b hb => hf b (inI b hb)) hu (own_fr (H' := H3) ov (Same.refl G) (fun b hb => (own_at ov b hb).1) hv)
  rw [List.set_set, set_id ht] at o2
  exact ⟨A2, by rw [List.map_set]; exact o2, A0, Aj, p2, pj⟩
theorem DS.setL {tv to ti : TE} {f : Ef} {g gi : Gq} {pt : Pf} (hv : DE K m tv t f m1) (hp : DPl K m1 to (.l t) g pt) (hi : DQv K m1 ti gi) (pn : ∀ {σ : St}, Pin M.po σ σ) : DS K M m (tAsg tv (L2.gSub to ti rSetL)) (sSet g pt gi f) m1 := by
  intro G H σ e A o e' D st hf k
  obtain ⟨⟨dx, e1⟩, hf0, hf⟩ := oBs hf
  obtain ⟨dl, h1, hf⟩ := oBs hf
  obtain ⟨di, h2, hf⟩ := oBs hf
  refine hv st hf0 fun G1 H1 x Av A1 s1 st1 ov ndv => ?_
  obtain ⟨a, Ad, Ar, hp1, o1, ev, back⟩ := hp st1 h1
  have o1' := o1
  cases o1 with
  | @l _ _ vs ds Ai ga ha hz oi =>
    cases di with
    | int i =>
      obtain ⟨j, hj, hf⟩ := Option.map_eq_some_iff.mp hf
      cases hf
      have len : vs.length = ds.length := by have := (ownA_len oi).2; simpa using this
      have hjl : j < ds.length := (ixN_seq hj).2.1
      refine ev fun H2 sH2 => hi (stt_grow st1 sH2).2 h2 fun H3 y sH3 qy => ?_
      cases qy
      have s13 := sH2.trans sH3
      refine ⟨a, vs, i, j, rfl, rfl, s13 _ _ ha, by rw [len]; exact hj, ?_⟩
      have nv := List.nodup_append.mp ndv
      have nd := hp1.nodup_iff.mp nv.2.1
      have n := List.nodup_append.mp nd
      have n1 := List.nodup_cons.mp n.1
      have haA : a ∈ A1 := hp1.mem_iff.mpr (List.mem_append_left _ (List.mem_cons_self ..))
      have fr1 : ∀ b, b ≠ a → (∃ o, H1 b = some o) → upd H3 a (.lst (vs.set j x)) b = H1 b := fun b hb ⟨o, ho⟩ => by rw [upd_ne hb, s13 b o ho, ho]
      obtain ⟨A2, o2, A0, Aj, p2, pj⟩ := own_set (n := 0) (H3 := upd H3 a (.lst (vs.set j x))) oi (repl_get hjl) ov (fun b hb => fr1 b (fun z => n1.1 (by rw [← z]; exact hb)) (ownA_at oi b hb).2)
        (fun b hb => fr1 b (fun z => nv.2.2 b hb a haA z) (own_at ov b hb).2)
      have nj := List.nodup_append.mp (pj.nodup_iff.mp n1.2)
      have in2 : ∀ b ∈ A2, b ∈ Av ∨ b ∈ Ai := fun b hb => (List.mem_append.mp (p2.mem_iff.mp hb)).imp id fun z => pj.mem_iff.mpr (List.mem_append_right _ z)
      have nd2 : A2.Nodup := p2.nodup_iff.mpr (List.nodup_append.mpr ⟨nv.1, nj.2.1, fun x hx y hy z => nv.2.2 x hx y (hp1.mem_iff.mpr (List.mem_append_left _ (List.mem_cons_of_mem _ (pj.mem_iff.mpr (List.mem_append_right _ hy))))) z⟩)
      obtain ⟨A', s4, st4⟩ := pl_wrote2 (u := .lst (vs.set j x)) (Ad' := a :: A2) s1 st1 ov ndv hp1 o1' back s13 (List.mem_cons_self ..) (.l ga upd_same (by rw [List.length_set]; exact hz) (by rw [List.length_set]; exact o2)) (fun b hb => by
        rcases List.mem_cons.mp hb with z | z
        · rw [z]; exact .inr (List.mem_cons_self ..)
        · exact (in2 b z).imp id fun z => List.mem_cons_of_mem _ z) (List.nodup_cons.mpr ⟨fun z => by
          rcases in2 a z with q | q
          · exact nv.2.2 a q a haA rfl
          · exact n1.1 q, nd2⟩)
      exact k G1 _ σ A' s4 st4 pn
    | _ => cases hf
theorem DS.setR {tv to ti : TE} {f : Ef} {g gi : Gq} {pt : Pf} {c : Nat} (hv : DE K m tv t f m1) (hp : DPl K m1 to (.r ts) g pt) (hi : DQv K m1 ti gi) (hc : ∀ e, gi e = some (.int (c : Nat))) (ht : ts[c]? = some t) (pn : ∀ {σ : St}, Pin M.po σ σ) : DS K M m (tAsg tv (L2.gSub to ti rSetL)) (sSet g pt gi f) m1 := by
  intro G H σ e A o e' D st hf k
  obtain ⟨⟨dx, e1⟩, hf0, hf⟩ := oBs hf
  obtain ⟨dl, h1, hf⟩ := oBs hf
  obtain ⟨di, h2, hf⟩ := oBs hf
  refine hv st hf0 fun G1 H1 x Av A1 s1 st1 ov ndv => ?_
  obtain ⟨a, Ad, Ar, hp1, o1, ev, back⟩ := hp st1 h1
  have o1' := o1
  cases o1 with
  | @r _ _ vs ds Ai ga ha hz oi =>
    rw [hc] at h2; cases h2
    obtain ⟨j, hj, hf⟩ := Option.map_eq_some_iff.mp hf
    cases hf
    have hjk : j = c := by
      have q := ixN_seq hj
      have q1 := q.1
      rw [seqIndex_of (by omega) (by omega)] at q1
      have := Option.some.inj q1
      omega
    subst hjk
    have len : vs.length = ds.length := by have := (ownA_len oi).2; simpa using this
    refine ev fun H2 sH2 => hi (stt_grow st1 sH2).2 (hc e1) fun H3 y sH3 qy => ?_
    cases qy
    have s13 := sH2.trans sH3
    refine ⟨a, vs, _, j, rfl, rfl, s13 _ _ ha, by rw [len]; exact hj, ?_⟩
    have nv := List.nodup_append.mp ndv
    have nd := hp1.nodup_iff.mp nv.2.1
    have n := List.nodup_append.mp nd
    have n1 := List.nodup_cons.mp n.1
    have haA : a ∈ A1 := hp1.mem_iff.mpr (List.mem_append_left _ (List.mem_cons_self ..))
    have fr1 : ∀ b, b ≠ a → (∃ o, H1 b = some o) → upd H3 a (.lst (vs.set j x)) b = H1 b := fun b hb ⟨o, ho⟩ => by rw [upd_ne hb, s13 b o ho, ho]
    obtain ⟨A2, o2, A0, Aj, p2, pj⟩ := own_set (n := 0) (H3 := upd H3 a (.lst (vs.set j x))) oi ht ov (fun b hb => fr1 b (fun z => n1.1 (by rw [← z]; exact hb)) (ownA_at oi b hb).2)
      (fun b hb => fr1 b (fun z => nv.2.2 b hb a haA z) (own_at ov b hb).2)
    have nj := List.nodup_append.mp (pj.nodup_iff.mp n1.2)
    have in2 : ∀ b ∈ A2, b ∈ Av ∨ b ∈ Ai := fun b hb => (List.mem_append.mp (p2.mem_iff.mp hb)).imp id fun z => pj.mem_iff.mpr (List.mem_append_right _ z)
    have nd2 : A2.Nodup := p2.nodup_iff.mpr (List.nodup_append.mpr ⟨nv.1, nj.2.1, fun x hx y hy z => nv.2.2 x hx y (hp1.mem_iff.mpr (List.mem_append_left _ (List.mem_cons_of_mem _ (pj.mem_iff.mpr (List.mem_append_right _ hy))))) z⟩)
    obtain ⟨A', s4, st4⟩ := pl_wrote2 (u := .lst (vs.set j x)) (Ad' := a :: A2) s1 st1 ov ndv hp1 o1' back s13 (List.mem_cons_self ..) (.r ga upd_same (by rw [List.length_set]; exact hz) o2) (fun b hb => by
      rcases List.mem_cons.mp hb with z | z
      · rw [z]; exact .inr (List.mem_cons_self ..)
      · exact (in2 b z).imp id fun z => List.mem_cons_of_mem _ z) (List.nodup_cons.mpr ⟨fun z => by
        rcases in2 a z with q | q
        · exact nv.2.2 a q a haA rfl
        · exact n1.1 q, nd2⟩)
    exact k G1 _ σ A' s4 st4 pn
theorem DE.itm {te ti : TE} {g gi : Gq} {pt : Pf} (hp : DPl K m te (.l .s) g pt) (hi : DQv K m ti gi) : DE K m (tOp (rIxL K) te ti) .s (eItm g gi) m := by
  intro G H σ e A d e' Q st hf k
  obtain ⟨dl, h1, hf⟩ := oBs hf
  obtain ⟨di, h2, hf⟩ := oBs hf
  obtain ⟨a, Ad, Ar, hp1, o1, ev, back⟩ := hp st h1
  cases o1 with
  | @l _ _ vs ds Ai ga ha hz oi =>
    cases di with
    | int i =>
      obtain ⟨x, hx, hf⟩ := Option.map_eq_some_iff.mp hf
      cases hf
      obtain ⟨j, hj, hx⟩ := oBs (show (ixN ds.length i).bind _ = _ from hx)
      obtain ⟨rfl, qi⟩ := of_ownA oi
      obtain ⟨v, hv, qv⟩ := qi.get hx
      refine ev fun H1 s1 => hi (stt_grow st s1).2 h2 fun H2 y s2 qy => ?_
      cases qy
      have s12 := s1.trans s2
      exact ⟨a, vs, i, v, rfl, rfl, .inl (.inl (s12 _ _ ha)), by unfold atI; rw [qi.1, hj]; exact hv, k G H2 v [] A (stt_grow st s12).1 (stt_grow st s12).2 (.s qv) st.nd⟩
    | _ => cases hf
end
section
variable {ι : Type} {Xf : ι → Cx} {P : Program} {w : World} {K : PySem.W.Frag} {mg : Str → Option Value} {base : Heap} {n : Nat} [F : Fam Xf P w K mg base n]
variable {M : Mk} {m m1 m2 mn ml : List Ty} {pos p p2 spos apos cpos : Pos} {a b c v o i : Expr} {f : Ef} {g gi gv : Gq} {pt : Pf} {t ty : Ty} {ts : List Ty}
include F
theorem pd_itm (hp : PPl Xf K m a (.l .s) g pt) (hi : PQ Xf K m b gi) (hs : PlainIx b := by exact fun _ _ => rfl) : PD Xf K m (.Subscript a b pos) .s (eItm g gi) m := by
  obtain ⟨ta, pa, da⟩ := hp.ex
  obtain ⟨tb, pb, db⟩ := hi.ex
  exact ⟨_, fun i => by have := pe_ix (ix_list (X := Xf i)) (pa i) (pb i) hs (pos := pos); rw [F.kk i] at this; exact this, DE.itm da db⟩
theorem pd_app (j : Nat) {x : Str} {xp : Pos} (hv0 : PD Xf K (m.set j .u) v t f m1) (hm : m[j]? = some (.l t) := by rfl) (hm1 : m1[j]? = some .u := by rfl) (hN : ∀ i, (Xf i).N[j]? = some x := by intro _; rfl)
    (hv : ∀ i, Vis (Xf i).env.scope x := by first | (intro _; exact Or.inl rfl) | (intro _; exact Or.inr (Or.inl rfl)) | (intro _; exact Or.inr (Or.inr rfl))) (hd : (x == ("__debug__" : Str)) = false := by decide) (hcd : (x == ("__classdict__" : Str)) = false := by decide)
    (hbase : ∀ i, attributeBase (.Name x xp) "append" (Xf i).env (eval (.Name x xp) (Xf i).env) = eval (.Name x xp) (Xf i).env := by intro _; rfl)
    (hfew : ∀ i, ((backTo cpos (starEach [v] (Xf i).env)).all (fun x => !x.1) && (backToKw cpos (keywordEach [] (Xf i).env)).all (fun x => x.1.isSome)
      && decide ([v].length + ([] : List Keyword).length + (if ([] : List Keyword).isEmpty then 0 else 1) < 30)) = true := by intro _; rfl)
    (hline : (apos.endLine == cpos.line) = true := by rfl) (hs : ∀ i, starEach [v] (Xf i).env = (false, eval v (Xf i).env) :: starEach [] (Xf i).env := by intro _; rfl) (hplain : ∀ i, (backTo cpos (starEach [] (Xf i).env)).any (·.1) = false := by intro _; rfl) :
    PD Xf K m (.Call (.Attribute (.Name x xp) "append" apos) [v] [] cpos) .s (eApp j f) (m1.set j (.l t)) := by
  obtain ⟨tv, pv, dv⟩ := hv0.ex
  exact ⟨_, fun i => by have := pe_bm PySem.F.plainAttrs_list PySem.F.slot_list_append PySem.F.type_list_append (mt_append (X := Xf i)) (pe_var (hN i) (hv i) hd hcd) (pa_cons (pv i) pa_nil (hs i)) (hbase i) (hfew i) hline (hs i) (hplain i); rw [F.kk i] at this; exact this, DE.app hm dv hm1⟩
theorem pd_popAt (hp : PPl Xf K m o (.l t) g pt) (hi : PQ Xf K m v gi) (hbase : ∀ i, attributeBase o "pop" (Xf i).env (eval o (Xf i).env) = eval o (Xf i).env := by intro _; rfl)
    (hfew : ∀ i, ((backTo cpos (starEach [v] (Xf i).env)).all (fun x => !x.1) && (backToKw cpos (keywordEach [] (Xf i).env)).all (fun x => x.1.isSome)
      && decide ([v].length + ([] : List Keyword).length + (if ([] : List Keyword).isEmpty then 0 else 1) < 30)) = true := by intro _; rfl)
    (hline : (apos.endLine == cpos.line) = true := by rfl) (hs : ∀ i, starEach [v] (Xf i).env = (false, eval v (Xf i).env) :: starEach [] (Xf i).env := by intro _; rfl) (hplain : ∀ i, (backTo cpos (starEach [] (Xf i).env)).any (·.1) = false := by intro _; rfl) :
    PD Xf K m (.Call (.Attribute o "pop" apos) [v] [] cpos) t (ePopAt g pt gi) m := by
  obtain ⟨ta, pa, da⟩ := hp.ex
  obtain ⟨tv, pv, dv⟩ := hi.ex
  exact ⟨_, fun i => by have := pe_bm PySem.F.plainAttrs_list PySem.F.slot_list_pop PySem.F.type_list_pop (mt_popAt (X := Xf i)) (pa i) (pa_cons (pv i) pa_nil (hs i)) (hbase i) (hfew i) hline (hs i) (hplain i); rw [F.kk i] at this; exact this, DE.popAt da dv⟩
theorem ds_setL (hv : PD Xf K m v t f m1) (hp : PPl Xf K m1 o (.l t) g pt) (hi : PQ Xf K m1 i gi)
    (ha : ∀ z v, assign (.Subscript o i pos) (Xf z).env v = (do
      let ov ← holding [v] (eval o (Xf z).env)
      let iv ← holding [v, ov] (eval i (Xf z).env)
      standAt pos
      holding [v, ov, iv] (setItem ov iv v)
      release [v, ov, iv] []) := by intro _ _; rfl)
    (hs : ∀ z, swapsWithSole [.Subscript o i pos] v spos.line (Xf z).env = pure false := by intro _; rfl) (hw : ∀ z, swappedStores [.Subscript o i pos] v (Xf z).env = pure none := by intro _; rfl)
    (h1 : ∀ z, (assignEach [.Subscript o i pos] (Xf z).env).map (·.2) = [assign (.Subscript o i pos) (Xf z).env] := by intro _; rfl) : PSd Xf K M m (.Assign [.Subscript o i pos] v spos) (sSet g pt gi f) m1 := by
  obtain ⟨tv, pv, dv⟩ := hv.ex
  obtain ⟨ta, pa, da⟩ := hp.ex
  obtain ⟨tb, pb, db⟩ := hi.ex
  exact ⟨_, fun z => ps_asg (pv z) (pg_sub (pa z) (pb z) set_list (ha z)) (hs z) (hw z) (h1 z), DS.setL dv da db Pin.refl⟩
theorem ds_setR (c : Nat) {ci : Int} {cj} (hv : PD Xf K m v t f m1) (hp : PPl Xf K m1 o (.r ts) g pt) (hc : ci = (c : Nat) := by rfl) (ht : ts[c]? = some t := by rfl)
    (ha : ∀ z v, assign (.Subscript o (.Constant (.int ci) cj p) pos) (Xf z).env v = (do
      let ov ← holding [v] (eval o (Xf z).env)
      let iv ← holding [v, ov] (eval (.Constant (.int ci) cj p) (Xf z).env)
      standAt pos
      holding [v, ov, iv] (setItem ov iv v)
      release [v, ov, iv] []) := by intro _ _; rfl)
    (hs : ∀ z, swapsWithSole [.Subscript o (.Constant (.int ci) cj p) pos] v spos.line (Xf z).env = pure false := by intro _; rfl) (hw : ∀ z, swappedStores [.Subscript o (.Constant (.int ci) cj p) pos] v (Xf z).env = pure none := by intro _; rfl)
    (h1 : ∀ z, (assignEach [.Subscript o (.Constant (.int ci) cj p) pos] (Xf z).env).map (·.2) = [assign (.Subscript o (.Constant (.int ci) cj p) pos) (Xf z).env] := by intro _; rfl) : PSd Xf K M m (.Assign [.Subscript o (.Constant (.int ci) cj p) pos] v spos) (sSet g pt (qC (.int ci)) f) m1 := by
  obtain ⟨tv, pv, dv⟩ := hv.ex
  obtain ⟨ta, pa, da⟩ := hp.ex
  obtain ⟨tb, pb, db⟩ := (pq_int (Xf := Xf) (K := K) (m := m1) (i := ci) (j := cj) (pos := p)).ex
  exact ⟨_, fun z => ps_asg (pv z) (pg_sub (pa z) (pb z) set_list (ha z)) (hs z) (hw z) (h1 z), DS.setR dv da db (fun e => by subst hc; rfl) ht Pin.refl⟩
end
end DL
namespace DL
open PySem L2 PySem.Spec
section
variable {ι : Type} {Xf : ι → Cx} {P : Program} {w : World} {K : PySem.W.Frag} {mg : Str → Option Value} {base : Heap} {n : Nat} [F : Fam Xf P w K mg base n]
variable {m m1 m2 m3 : List Ty} {pos p p2 : Pos} {a b c tg : Expr} {f g h : Ef}
theorem own_q {K : PySem.W.Frag} {G H : Hp} {d : PyData} {v : Option V} {A : List Addr} (o : Own K G H .q d v A) : A = [] ∧ ∃ (a : Addr) (ns : List Int), v = some (.ref a) ∧ d = .list (ns.map .int) ∧ SqL K G a (ns.map V.int) ∧ ns.length ≤ sizeLine := by
  cases o with
  | q h hz => exact ⟨rfl, _, _, rfl, rfl, h, hz⟩
theorem dqA_nums {K : PySem.W.Frag} {G : Hp} : ∀ ns : List Int, DqA K G (ns.map V.int) (ns.map PyData.int)
  | [] => DqA.nil
  | i :: ns => DqA.cons (.int i) (dqA_nums ns)
theorem walkD_q {K : PySem.W.Frag} {G : Hp} {a : Addr} {ns : List Int} (h : SqL K G a (ns.map V.int)) : WalkS K G (Itl K a) (ns.map PyData.int) := by
  refine ⟨fun i H hi s => ?_, fun H s => ⟨_, same_seqL s h, by simp⟩, fun {i H x H' m G' σ e A} hi s st y => ?_⟩
  · rw [List.length_map] at hi
    exact ⟨_, .int ns[i], same_seqL s h, by rw [List.getElem?_map, List.getElem?_eq_getElem hi]; rfl⟩
  · obtain ⟨rfl, y⟩ := y
    refine ⟨G', Step.refl, st, Same.refl _, fun d hd => ?_⟩
    exact ((dqA_nums (K := K) (G := G) ns).2 i x d (y _ (same_seqL (s.trans st.sub) h)) hd).mono s
include F in
theorem pi_q (j : Nat) {x : Str} (hm : m[j]? = some .q := by rfl) (hN : ∀ i, (Xf i).N[j]? = some x := by intro _; rfl)
    (hv : ∀ i, Vis (Xf i).env.scope x := by first | (intro _; exact Or.inl rfl) | (intro _; exact Or.inr (Or.inl rfl)) | (intro _; exact Or.inr (Or.inr rfl))) (hd : (x == ("__debug__" : Str)) = false := by decide)
    (hcd : (x == ("__classdict__" : Str)) = false := by decide) : PIt Xf K false m tg (.Name x pos) (iSeq (eVar j)) m := by
  refine ⟨_, fun i => (by have := pi_list (tg := tg) (pe_var (X := Xf i) (pos := pos) (hN i) (hv i) hd hcd); rw [F.kk i] at this; exact this), fun {G H σ e A ds e' R} st hf k => ?_⟩
  obtain ⟨d', v, Aj, A0, h1, h2, h3, _, _⟩ := ownA_take st.own hm
  obtain ⟨_, a, ns, rfl, rfl, hq, hz⟩ := own_q h3
  have hf : (seqD (e.getD j .none)).bind (fun ds => some (ds, e)) = some (ds, e') := hf
  rw [List.getD_eq_getElem?_getD, h1] at hf
  cases hf
  exact ⟨.ref a, h2, a, rfl, ⟨_, same_seqL st.sub hq⟩, k G H A _ Step.refl st (walkD_q hq).d (by rw [List.length_map]; exact hz)⟩
def eLenQ (j : Nat) : Ef := fun e => match e.getD j .none with
  | .list ds => some (.int ds.length, e)
  | _ => none
def eSlQ (j : Nat) (lo hi : Option Int) : Ef := fun e => (gSlL (e.getD j .none) lo hi).map fun d => (d, e)
end
def stb : Ty → Bool
  | .u => true
  | .s => true
  | .q => true
  | .f _ _ => true
  | .x _ _ _ => true
  | _ => false
inductive FinOk (po : List Nat) : Nat → List Ty → List Ty → Prop
  | nil (j : Nat) (m : List Ty) : FinOk po j [] m
  | stb {j : Nat} {t t' : Ty} {ts m : List Ty} : stb t = true → FinOk po (j + 1) ts m → FinOk po j (t :: ts) (t' :: m)
  | own {j : Nat} {t : Ty} {ts m : List Ty} : j ∈ po → FinOk po (j + 1) ts m → FinOk po j (t :: ts) (t :: m)
def fins : List Ty → List PyData → List PyData → List PyData
  | t :: ts, d :: ds, e :: es => (if stb t = true then d else e) :: fins ts ds es
  | _, _, _ => []
def runF (f : Sf) (ptys : List Ty) (r : Nat) : DFn := fun ds => (f (ds ++ List.replicate r .none)).bind fun p => match p.1 with
  | .rt d => some (d, fins ptys ds p.2)
  | .nx => some (.none, fins ptys ds p.2)
  | _ => none
section
variable {K : PySem.W.Frag} {G H G1 H1 : Hp}
theorem own_stb {t : Ty} {d : PyData} {v : Option V} {A : List Addr} (o : Own K G H t d v A) (h : stb t = true) : A = [] := by
  cases o with
  | u => rfl
  | s => rfl
  | q => rfl
  | d => cases h
  | t => cases h
  | o => cases h
  | f => rfl
  | x => rfl
  | g => cases h
  | e => cases h
  | k => cases h
  | a => cases h
  | l => cases h
  | r => cases h
theorem fin_own {po : List Nat} {σ0 σ : St} : ∀ {j : Nat} {ts m : List Ty} {ds e : List PyData} {vs : List (Option V)} {A0 A : List Addr} {τ : List (Option V)}, FinOk po j ts m → OwnA K G H ts ds vs A0 → Same G G1 → OwnA K G1 H1 m e τ A → (∀ i, τ[i]? = σ[j + i]?) → (∀ i v, vs[i]? = some v → σ0[j + i]? = some v) → Pin po σ0 σ → A.Nodup →
    ∃ A3, OwnA K G1 H1 ts (fins ts ds e) vs A3 ∧ A3.Nodup ∧ ∀ a ∈ A3, a ∈ A := by
  intro j ts
  induction ts generalizing j with
  | nil =>
    intro m ds e vs A0 A τ fo o0 sg o h1 h2 hp nd
    cases o0
    exact ⟨[], .nil, List.nodup_nil, fun a h => by cases h⟩
  | cons t ts ih =>
    intro m ds e vs A0 A τ fo o0 sg o h1 h2 hp nd
    cases o0 with
    | @cons _ _ d ds v vs B0 B1 p1 p2 =>
      have h2' : ∀ i x, vs[i]? = some x → σ0[j + 1 + i]? = some x := fun i x hx => by
        have := h2 (i + 1) x (by simpa using hx)
        rw [show j + 1 + i = j + (i + 1) by omega]; exact this
      cases fo with
      | stb hs fo =>
        cases o with
        | @cons _ _ d' ds' v' vs' C0 C1 q1 q2 =>
          have h1' : ∀ i, vs'[i]? = σ[j + 1 + i]? := fun i => by
            have := h1 (i + 1)
            rw [show j + 1 + i = j + (i + 1) by omega, ← this]; simp
          obtain ⟨A3, o3, n3, s3⟩ := ih fo p2 sg q2 h1' h2' hp (List.nodup_append.mp nd).2.1
          obtain rfl := own_stb p1 hs
          refine ⟨A3, ?_, n3, fun a ha => List.mem_append_right _ (s3 a ha)⟩
          unfold fins
          rw [if_pos hs]
          exact OwnA.cons (A := []) (own_fr p1 sg (fun a h => by cases h) fun a h => by cases h) o3
      | own hj fo =>
        cases o with
        | @cons _ _ d' ds' v' vs' C0 C1 q1 q2 =>
          have h1' : ∀ i, vs'[i]? = σ[j + 1 + i]? := fun i => by
            have := h1 (i + 1)
            rw [show j + 1 + i = j + (i + 1) by omega, ← this]; simp
          have n := List.nodup_append.mp nd
          obtain ⟨A3, o3, n3, s3⟩ := ih fo p2 sg q2 h1' h2' hp n.2.1
          have ev : v' = v := by
            have a := h1 0
            have b := h2 0 v rfl
            have c := hp j hj
            simp only [Nat.add_zero] at a b
            rw [← a, b] at c
            simpa using c
          subst ev
          by_cases hs : stb t = true
          · obtain rfl := own_stb p1 hs
            refine ⟨A3, ?_, n3, fun a ha => List.mem_append_right _ (s3 a ha)⟩
            unfold fins
            rw [if_pos hs]
            exact OwnA.cons (A := []) (own_fr p1 sg (fun a h => by cases h) fun a h => by cases h) o3
          · refine ⟨C0 ++ A3, ?_, List.nodup_append.mpr ⟨n.1, n3, fun a ha b hb z => n.2.2 a ha b (s3 b hb) z⟩, fun a ha => ?_⟩
            · unfold fins
              rw [if_neg hs]
              exact OwnA.cons q1 o3
            · rcases List.mem_append.mp ha with z | z
              · exact List.mem_append_left _ z
              · exact List.mem_append_right _ (s3 a z)
theorem ownA_us {ts : List Ty} {ds : List PyData} {vs : List (Option V)} {A : List Addr} (r : Nat) (h : OwnA K G H ts ds vs A) : OwnA K G H (ts ++ List.replicate r .u) (ds ++ List.replicate r .none) (vs ++ List.replicate r none) A := by
  induction ts generalizing ds vs A with
  | nil =>
    cases h
    simp only [List.nil_append]
    induction r with
    | zero => exact .nil
    | succ r ih => rw [List.replicate_succ, List.replicate_succ, List.replicate_succ]; exact OwnA.cons (A := []) (.u _ _) ih
  | cons t ts ih =>
    cases h with
    | cons h1 h2 => exact .cons h1 (ih h2)
end
def NoNx (f : Sf) : Prop := ∀ e e', f e ≠ some (.nx, e')
theorem nnx_ret {f : Ef} : NoNx (sRet f) := fun e e' h => by
  obtain ⟨p, _, h⟩ := Option.map_eq_some_iff.mp h
  cases h
theorem nnx_seq {f g : Sf} (h : NoNx g) : NoNx (sSeq f g) := fun e e' z => by
  obtain ⟨⟨o, e1⟩, _, z⟩ := oBs z
  cases o with
  | nx => exact h _ _ z
  | bk => cases z
  | ct => cases z
  | rt d => cases z
abbrev oneX (X : Cx) : Unit → Cx := fun _ => X
theorem fam_one {P : Program} {w : World} {K : PySem.W.Frag} {mg : Str → Option Value} {base : Heap} {N ps : List Str} {qual : Str} {scope : Scope} {f : Addr} {cdv : Value} {A : Around} {outer : List Env} {s : Shared} {H : Hp} {E : XK} {n : Nat} (S : FnScope N ps scope)
    (hr : Room n (A.deeper (PyProof.Rows.envOfC qual scope s.heap.objs.size f cdv))) : Fam (oneX (cxOf CX0 P w K mg base N qual scope f cdv A outer s H E).nox) P w K mg base n :=
  ⟨fun _ => rfl, fun _ => rfl, fun _ => rfl, fun _ => rfl, fun _ => rfl, fun _ => hr.u, fun _ => S.nd⟩
theorem fnG_dl {P : Program} {w : World} {K : PySem.W.Frag} {mg : Str → Option Value} {base : Heap} {x qual : Str} {st : Stmt} {f : Addr} {fd : FuncData} {N ps : List Str} {k : Nat} {ptys : List Ty} {rty : Ty} {sf : Sf} {mr : List Ty} {po : List Nat} {r : Nat}
    (F : L2.Fun K x qual st f fd) (S : FnScope N ps (defScope st)) (hl : ptys.length = ps.length) (hr : N.length = ps.length + r) (fo : FinOk po 0 ptys mr) (hty : rty = .s ∨ ∀ e e', sf e ≠ some (.nx, e'))
    (hbody : ∀ (cdv : Value) (A : Around) (outer : List Env) (s : Shared) (H : Hp) (E : XK), Fam (oneX (cxOf CX0 P w K mg base N qual (defScope st) f cdv A outer s H E).nox) P w K mg base k → FamG (oneX (cxOf CX0 P w K mg base N qual (defScope st) f cdv A outer s H E).nox) → FamN (oneX (cxOf CX0 P w K mg base N qual (defScope st) f cdv A outer s H E).nox) →
      PSsd (oneX (cxOf CX0 P w K mg base N qual (defScope st) f cdv A outer s H E).nox) K ⟨[], [], mr, po, rty⟩ (ptys ++ List.replicate r .u) (defBody st) sf mr) : FnG P w K mg base (k + 1) f fd ps (spD K ptys rty (runF sf ptys r)) := by
  refine fnG_of F S (fun vs H Q E h => ?_) fun cdv A outer s H vs Q E room gd h => ?_
  · obtain ⟨ds, d, fs, G, A, _, o, _⟩ := h
    have := ownA_len o
    rw [List.length_map] at this
    omega
  · obtain ⟨ds, d, fs, G, A0, hF, o0, nd, sub, kont⟩ := h
    have ln := ownA_len o0
    rw [List.length_map] at ln
    obtain ⟨t, pt, dt⟩ := (hbody cdv A outer s H E (fam_one S room) ⟨fun _ => gd, fun _ => rfl, fun _ => room.hd⟩ ⟨fun _ => PassesOwn.never⟩).ex
    refine ⟨t, pt (), ?_⟩
    obtain ⟨⟨o, e'⟩, h1, h2⟩ := oBs hF
    have hst : L2.start N vs = vs.map some ++ List.replicate r none := by
      unfold L2.start
      rw [show N.length - vs.length = r by omega]
    have st0 : Stt K (ptys ++ List.replicate r .u) G H (L2.start N vs) (ds ++ List.replicate r .none) A0 := ⟨by rw [hst]; exact ownA_us r o0, nd, sub⟩
    refine dt st0 h1 ?_
    have fin : ∀ {G' H' : Hp} {σ' : St} {A' : List Addr}, Same G G' → Stt K mr G' H' σ' e' A' → Pin po (L2.start N vs) σ' → ∃ A3, OwnA K G' H' ptys (fins ptys ds e') (vs.map some) A3 ∧ A3.Nodup ∧ ∀ a ∈ A3, a ∈ A' := fun {G' H' σ' A'} sg st' pn =>
      fin_own (j := 0) fo o0 sg st'.own (fun i => by rw [Nat.zero_add]) (fun i v hv => by
        rw [Nat.zero_add, hst, List.getElem?_append_left (List.getElem?_eq_some_iff.mp hv).1]; exact hv) pn st'.nd
    cases o with
    | nx =>
      cases h2
      rcases hty with hty | hty
      · subst hty
        exact fun G' H' σ' A' s' st' pn => by
          obtain ⟨A3, o3, n3, s3⟩ := fin s'.sg st' pn
          exact kont G' H' .non [] A3 (s'.less s3) o3 (.s .non) n3 st'.sub
      · exact absurd h1 (hty _ _)
    | bk => cases h2
    | ct => cases h2
    | rt d1 =>
      cases h2
      intro G' H' σ' v Av A' s' st' ov ndv pn
      obtain ⟨A3, o3, n3, s3⟩ := fin s'.sg st' pn
      have n := List.nodup_append.mp ndv
      refine kont G' H' v Av A3 (s'.less fun a ha => ?_) o3 ov (List.nodup_append.mpr ⟨n.1, n3, fun a ha b hb z => n.2.2 a ha b (s3 b hb) z⟩) st'.sub
      rcases List.mem_append.mp ha with z | z
      · exact List.mem_append_left _ z
      · exact List.mem_append_right _ (s3 a z)
end DL
namespace DL
open PySem L2 PySem.Spec PyProof.Rows
def hScr (K : PySem.W.Frag) (a : Addr) (u : HO) : Hp := fun b => if b = a ∧ K.lookup a = none then some u else none
theorem hScr_some {K : PySem.W.Frag} {a b : Addr} {u z : HO} (h : hScr K a u b = some z) : b = a ∧ K.lookup a = none ∧ z = u := by
  unfold hScr at h
  split at h
  · rename_i c; exact ⟨c.1, c.2, (Option.some.inj h).symm⟩
  · cases h
theorem hScr_none {K : PySem.W.Frag} {a b : Addr} {u : HO} (h : b ≠ a ∨ K.lookup a ≠ none) : hScr K a u b = none := by
  unfold hScr
  rw [if_neg]
  rintro ⟨c1, c2⟩
  exact h.elim (fun z => z c1) fun z => z c2
section
variable {P : Program} {w : World} {K : PySem.W.Frag} {mg mb : Str → Option Value} {k : Nat} {fa a : Addr} {fd : FuncData} {x : Str} {s₁ : Shared} {vs : List Value} {ns : List Int} {Fn : DFn}
theorem scr_env (KX : K.In s₁.heap) (hns : s₁.heap.Ns mainGlobals mg) (hb : s₁.heap.Ns builtinsNs mb) (hbb : ∀ x : Str, x ≠ "__name__" → mb x = bootBuiltins x) (hlim : s₁.heap.NoLimit) (hg : s₁.gens = #[])
    {ob : Obj} {u : HO} (ha : s₁.heap.get? a = some ob) (hd : ∀ es ep, ob.data ≠ .dict es ep) (hu : ∀ H, ObjOk P w H s₁.heap a u) :
    K.In (hidT s₁.heap (hScr K a u)) ∧ (hidT s₁.heap (hScr K a u)).Ns mainGlobals mg ∧ Env0 P w K mg (hidT s₁.heap (hScr K a u)) callerA [] s₁ (hScr K a u) := by
  have up : ∀ {b : Addr} {o : Obj}, s₁.heap.get? b = some o → (b ≠ a ∨ K.lookup a ≠ none) → (hidT s₁.heap (hScr K a u)).get? b = some o := fun e n => hidT_get e (hScr_none n)
  have ns' : ∀ {b : Addr} {m : Str → Option Value}, s₁.heap.Ns b m → (hidT s₁.heap (hScr K a u)).Ns b m := by
    rintro b m ⟨o, es, ep, e, d, r⟩
    refine ⟨o, es, ep, up e (.inl fun z => ?_), d, r⟩
    subst z
    rw [ha] at e
    exact hd es ep ((Option.some.inj e) ▸ d)
  have kin : K.In (hidT s₁.heap (hScr K a u)) := fun b o e => up (KX b o e) (by
    by_cases z : b = a
    · subst z; exact .inr (by rw [e]; exact fun q => by cases q)
    · exact .inl z)
  obtain ⟨mc, hl1, hl2⟩ := hlim
  refine ⟨kin, ns' hns, rfl, ⟨kin, ns' hns, ⟨mb, ns' hb, hbb⟩, mc, ns' hl1, hl2⟩, fun b o e => of_hidT e, Nat.le_of_eq (hidT_size _ _), trivial, fun b hb => ?_, fun b z hz => ?_, .of_eq hg⟩
  · cases hb
  · obtain ⟨rfl, _, rfl⟩ := hScr_some hz
    exact hu _
theorem law_callG (KX : K.In s₁.heap) (hns : s₁.heap.Ns mainGlobals mg) (hb : s₁.heap.Ns builtinsNs mb) (hbb : ∀ x : Str, x ≠ "__name__" → mb x = bootBuiltins x) (hlim : s₁.heap.NoLimit) (hg : s₁.gens = #[])
    (ha : s₁.heap.get? a = some { cls := .type "list", data := .seq vs.toArray }) (hi : IntsAre vs ns) (hl : ns.length ≤ sizeLine) (hr : Room k callerA)
    (F : ∀ base : Heap, K.In base → base.Ns mainGlobals mg → FnG P w K mg base k fa fd [x] (spD K [.q] .s Fn)) (hbind : ∀ (s : Shared) (u : Value), BindsTo s fd ⟨[u], []⟩ [(x, u)])
    (hF : ∃ fs, Fn [.list (ns.map .int)] = some (.bool true, fs)) :
    codeAny (model P w) callerA (.call (.ref fa) ⟨[.ref a], []⟩) (fun r s' => r = .ok (.ret (.bool true)) ∧ OldK s₁.heap s'.heap ∧ s'.os = s₁.os ∧ AllBare s'.gens) s₁ := by
  obtain ⟨fs, hF⟩ := hF
  have rv := vals_ints hi
  have okA : ∀ H, ObjOk P w H s₁.heap a (.frz { cls := .type "list", data := .seq vs.toArray } (.lst (ns.map V.int))) := fun H => ⟨ha, by rw [List.length_map]; exact hl, vs, _, rv, ha⟩
  obtain ⟨k1, k2, e0⟩ := scr_env KX hns hb hbb hlim hg ha (fun es ep z => by cases z) okA
  have hS : SqL K (hScr K a (.frz { cls := .type "list", data := .seq vs.toArray } (.lst (ns.map V.int)))) a (ns.map V.int) := by
    cases hk : K.lookup a with
    | none => exact .inl (.inr ⟨_, if_pos ⟨rfl, hk⟩⟩)
    | some o =>
      have e := KX a o hk
      rw [ha] at e
      cases e
      exact .inr ⟨_, vs.toArray, _, hk, rfl, rfl, rfl, by rw [List.size_toArray, hi.length]; exact hl, by simpa using rv⟩
  refine codeAny_mono ((F _ k1 k2).run callerA [] s₁ _ ⟨[.ref a], []⟩ [.ref a] [.ref a] (fun v _ => v = .bl true) E0 hr rfl e0 (hbind s₁ (.ref a)) (.cons rfl .nil)
    ⟨_, _, fs, _, [], hF, OwnA.cons (A := []) (.q hS hl) .nil, List.nodup_nil, Same.refl _, fun G' H' v Av A' _ _ o _ _ => by
      cases o with
      | s q => cases q; rfl⟩) fun r s' h => ?_
  cases r with
  | error e => exact False.elim h
  | ok fl =>
    cases fl with
    | ret u =>
      obtain ⟨v, H', os, bare, un, hok', r', q⟩ := h
      cases q
      obtain rfl : u = Value.bool true := r'
      refine ⟨rfl, OldK.of_keep fun b o e => ?_, os, bare⟩
      cases hq : hScr K a (.frz { cls := .type "list", data := .seq vs.toArray } (.lst (ns.map V.int))) b with
      | none => exact un.keep b o e hq (fun z => by cases z) (by simp)
      | some z =>
        obtain ⟨rfl, _, rfl⟩ := hScr_some hq
        rw [ha] at e
        rw [← e]
        exact (hok' b _ (un.frzs b _ _ hq)).1
    | next => exact False.elim h
    | brk => exact False.elim h
    | cont => exact False.elim h
end
end DL
namespace DL
open PySem L2 PySem.Spec PyProof.Rows
class IsaOk (T : String) (p : outParam (PyData → Bool)) : Prop where
  non : kitB "NoneType" T = some (p .none)
  bl : ∀ b, kitB "bool" T = some (p (.bool b))
  int : ∀ i, kitB "int" T = some (p (.int i))
  str : ∀ x, kitB "str" T = some (p (.str x))
  lst : ∀ xs, kitB "list" T = some (p (.list xs))
  tup : ∀ xs, kitB "tuple" T = some (p (.tuple xs))
  dic : ∀ kvs : List (Str × Int), kitB "dict" T = some (p (.dict (kvs.map fun q => (.str q.1, .int q.2))))
  dv : ∀ (k : Str) (d : PyData), kitB "dict" T = some (p (.dict [(.str k, d)]))
  ob : ∀ o cn ns ds, p (obD o cn ns ds) = false
  mem : T ∈ obTys
instance : IsaOk "int" PyData.isInt := ⟨(by decide +kernel : kitB "NoneType" "int" = some false), fun _ => (by decide +kernel : kitB "bool" "int" = some true), fun _ => (by decide +kernel : kitB "int" "int" = some true), fun _ => (by decide +kernel : kitB "str" "int" = some false), fun _ => (by decide +kernel : kitB "list" "int" = some false), fun _ => (by decide +kernel : kitB "tuple" "int" = some false), fun _ => (by decide +kernel : kitB "dict" "int" = some false), fun _ _ => (by decide +kernel : kitB "dict" "int" = some false), fun _ _ _ _ => rfl, by decide⟩
instance : IsaOk "bool" PyData.isBool := ⟨(by decide +kernel : kitB "NoneType" "bool" = some false), fun _ => (by decide +kernel : kitB "bool" "bool" = some true), fun _ => (by decide +kernel : kitB "int" "bool" = some false), fun _ => (by decide +kernel : kitB "str" "bool" = some false), fun _ => (by decide +kernel : kitB "list" "bool" = some false), fun _ => (by decide +kernel : kitB "tuple" "bool" = some false), fun _ => (by decide +kernel : kitB "dict" "bool" = some false), fun _ _ => (by decide +kernel : kitB "dict" "bool" = some false), fun _ _ _ _ => rfl, by decide⟩
instance : IsaOk "str" PyData.isStr := ⟨(by decide +kernel : kitB "NoneType" "str" = some false), fun _ => (by decide +kernel : kitB "bool" "str" = some false), fun _ => (by decide +kernel : kitB "int" "str" = some false), fun _ => (by decide +kernel : kitB "str" "str" = some true), fun _ => (by decide +kernel : kitB "list" "str" = some false), fun _ => (by decide +kernel : kitB "tuple" "str" = some false), fun _ => (by decide +kernel : kitB "dict" "str" = some false), fun _ _ => (by decide +kernel : kitB "dict" "str" = some false), fun _ _ _ _ => rfl, by decide⟩
instance : IsaOk "list" PyData.isList := ⟨(by decide +kernel : kitB "NoneType" "list" = some false), fun _ => (by decide +kernel : kitB "bool" "list" = some false), fun _ => (by decide +kernel : kitB "int" "list" = some false), fun _ => (by decide +kernel : kitB "str" "list" = some false), fun _ => (by decide +kernel : kitB "list" "list" = some true), fun _ => (by decide +kernel : kitB "tuple" "list" = some false), fun _ => (by decide +kernel : kitB "dict" "list" = some false), fun _ _ => (by decide +kernel : kitB "dict" "list" = some false), fun _ _ _ _ => rfl, by decide⟩
instance : IsaOk "tuple" PyData.isTuple := ⟨(by decide +kernel : kitB "NoneType" "tuple" = some false), fun _ => (by decide +kernel : kitB "bool" "tuple" = some false), fun _ => (by decide +kernel : kitB "int" "tuple" = some false), fun _ => (by decide +kernel : kitB "str" "tuple" = some false), fun _ => (by decide +kernel : kitB "list" "tuple" = some false), fun _ => (by decide +kernel : kitB "tuple" "tuple" = some true), fun _ => (by decide +kernel : kitB "dict" "tuple" = some false), fun _ _ => (by decide +kernel : kitB "dict" "tuple" = some false), fun _ _ _ _ => rfl, by decide⟩
theorem isDct_kvs (kvs : List (Str × Int)) : isDct (.dict (kvs.map fun q => (.str q.1, .int q.2))) = true := by
  match kvs with
  | [] => rfl
  | [_] => rfl
  | _ :: _ :: _ => rfl
instance : IsaOk "dict" isDct := ⟨(by decide +kernel : kitB "NoneType" "dict" = some false), fun _ => (by decide +kernel : kitB "bool" "dict" = some false), fun _ => (by decide +kernel : kitB "int" "dict" = some false), fun _ => (by decide +kernel : kitB "str" "dict" = some false), fun _ => (by decide +kernel : kitB "list" "dict" = some false), fun _ => (by decide +kernel : kitB "tuple" "dict" = some false), fun kvs => by rw [isDct_kvs]; exact (by decide +kernel : kitB "dict" "dict" = some true), fun _ _ => (by decide +kernel : kitB "dict" "dict" = some true), fun _ _ _ _ => rfl, by decide⟩
instance : IsaOk "set" PyData.isSet := ⟨(by decide +kernel : kitB "NoneType" "set" = some false), fun _ => (by decide +kernel : kitB "bool" "set" = some false), fun _ => (by decide +kernel : kitB "int" "set" = some false), fun _ => (by decide +kernel : kitB "str" "set" = some false), fun _ => (by decide +kernel : kitB "list" "set" = some false), fun _ => (by decide +kernel : kitB "tuple" "set" = some false), fun _ => (by decide +kernel : kitB "dict" "set" = some false), fun _ _ => (by decide +kernel : kitB "dict" "set" = some false), fun _ _ _ _ => rfl, by decide⟩
def gIsa (p : PyData → Bool) (d : PyData) : Option PyData := some (.bool (p d))
section
variable {ι : Type} {Xf : ι → Cx} {P : Program} {w : World} {K : PySem.W.Frag} {mg : Str → Option Value} {base : Heap} {n : Nat} [F : Fam Xf P w K mg base n]
variable {m m1 m2 m3 : List Ty} {pos p p2 : Pos} {a b c tg : Expr} {f g h : Ef} {fq : Gq}
include F in
theorem pd_gint {x : Str} {i : Int} {t : Tok} (hm : mg x = some (.int i t)) (hg : ∀ i, Gl (Xf i) x := by intro _; rfl) (hd : (x == ("__debug__" : Str)) = false := by decide) : PD Xf K m (.Name x pos) .s (eC (.int i)) m :=
  ⟨_, fun j => pe_glob (v := .int i) (hg j) (by rw [F.mg_ j]; exact hm) ⟨t, rfl⟩ hd, fun {G H σ e A d e' Q} st hf k => by cases hf; exact ans_s st (.int i) k⟩
end
end DL
namespace DL
open PySem PySem.Calls PyProof.Rows L2
section
variable {prog : Program} {w : World} {A : Around} {E : Value → Shared → Prop} {s : Shared}
end
end DL
namespace DL
open PySem L2 PySem.Spec
section
variable {ι : Type} {Xf : ι → Cx} {P : Program} {w : World} {K : PySem.W.Frag} {mg : Str → Option Value} {base : Heap} {n : Nat} [F : Fam Xf P w K mg base n]
end
end DL
namespace DL
open PySem L2 PySem.Spec
section
variable {K : PySem.W.Frag} {M : Mk} {G H G1 H1 : Hp} {m m1 m2 mn : List Ty} {σ σ1 : St} {e : En} {A A1 : List Addr} {D : Ends} {e' : En} {o : Out} {t u : TS} {f g : Sf} {ef : Ef} {bf : Bf} {lf : Lf}
def eItmG (j : Nat) (f : Ef) : Ef := fun e => (f e).bind fun p => (itemD (p.2.getD j .none) p.1).map fun x => (x, p.2)
end
section
variable {ι : Type} {Xf : ι → Cx} {P : Program} {w : World} {K : PySem.W.Frag} {mg : Str → Option Value} {base : Heap} {n : Nat} [F : Fam Xf P w K mg base n]
variable {M : Mk} {m m1 m2 mn ml : List Ty} {pos p p2 spos xp : Pos} {a b c v tg iter : Expr} {st : Stmt} {rest body orelse : List Stmt} {f g : Sf} {ef eg : Ef} {bf : Bf} {lf : Lf} {gf : Gf} {sl : List Nat} {ty t1 t2 : Ty}
structure PRd {ι : Type} (Xf : ι → Cx) (K : PySem.W.Frag) (m : List Ty) (e : Expr) (f : Lf) (m' : List Ty) : Prop where
  ex : ∃ te : St → Hp → (Int → Int → Hp → Prop) → Prop, (∀ i, PRg (Xf i) e te) ∧ ∀ {G H : Hp} {σ : St} {e : En} {A : List Addr} {ds : List PyData} {e' : En} {Q : Int → Int → Hp → Prop}, Stt K m G H σ e A → f e = some (ds, e') →
    (∀ (G' H' : Hp) (A' : List Addr) (a b : Int), Step A G H A' G' H' → Stt K m' G' H' σ e' A' → RgOk a b → ds = rngD a (b - a).toNat → Q a b H') → te σ H Q
def eLsR (f : Lf) : Ef := fun e => (f e).map fun p => (.list p.1, p.2)
def eTpR (f : Lf) : Ef := fun e => (f e).map fun p => (.tuple p.1, p.2)
def sNever : Sf := fun _ => none
def sAug (j : Nat) (gg : PyData → PyData → Option PyData) (f : Ef) : Sf := fun e => (f e).bind fun p => (gg (p.2.getD j .none) p.1).map fun d => (.nx, p.2.set j d)
end
def rRepr (K : PySem.W.Frag) : List V → Hp → VK → Prop := fun vs H Q => ∃ x d, vs = [x] ∧ Dq K H x d ∧ gRepr d = some (.str d.shown) ∧ Q (.str d.shown) H
def Shw (P : Program) (w : World) (h : Heap) (u : Value) (d : PyData) : Prop :=
  d.showable = true → d.shown.length ≤ sizeLine → (∃ as, Reads h u d as) ∧ ∃ bs, ReadAtMost h d.depth bs ∧ ReprK P w bs h d.depth u d.shown
theorem shw_all {P : Program} {w : World} {h : Heap} : ∀ {us : List Value} {ds : List PyData}, us.length = ds.length → (∀ (i : Nat) u d, us[i]? = some u → ds[i]? = some d → Shw P w h u d) →
    PyData.showableAll ds = true → (∀ t ∈ PyData.shownAll ds, t.length ≤ sizeLine) → (∃ as, ReadsAll h us ds as) ∧ ∃ bs, ReadAtMost h (PyData.depthAll ds) bs ∧ ReprAllK P w bs h (PyData.depthAll ds) us (PyData.shownAll ds)
  | [], [], _, _, _, _ => ⟨⟨_, .nil⟩, [], (fun b hb => by cases hb), by rw [PyData.shownAll]; exact .nil⟩
  | u :: us, d :: ds, hl, hi, hs, hz => by
    unfold PyData.showableAll at hs
    rw [Bool.and_eq_true] at hs
    unfold PyData.shownAll at hz ⊢
    unfold PyData.depthAll
    obtain ⟨⟨a1, r1⟩, b1, m1, k1⟩ := hi 0 u d rfl rfl hs.1 (hz _ (List.mem_cons_self ..))
    obtain ⟨⟨a2, r2⟩, b2, m2, k2⟩ := shw_all (us := us) (ds := ds) (by simpa using hl) (fun i u d h1 h2 => hi (i + 1) u d (by simpa using h1) (by simpa using h2)) hs.2 fun t ht => hz t (List.mem_cons_of_mem _ ht)
    refine ⟨⟨_, .cons r1 r2⟩, b1 ++ b2, (m1.mono (Nat.le_max_left _ _)).append (m2.mono (Nat.le_max_right _ _)), ?_⟩
    exact .cons ((k1.more fun _ z => List.mem_append_left _ z).level_le (Nat.le_max_left ..)) (k2.more_le (fun _ z => List.mem_append_right _ z) (Nat.le_max_right ..))
  | [], _ :: _, hl, _, _, _ => by simp at hl
  | _ :: _, [], hl, _, _, _ => by simp at hl
theorem nodictK : ∀ kvs : List (Str × Int), PyData.hasDictAll ((kvs.map fun p => (PyData.str p.1, PyData.int p.2)).map (·.1)) = false ∧ PyData.hasDictAll ((kvs.map fun p => (PyData.str p.1, PyData.int p.2)).map (·.2)) = false
  | [] => ⟨rfl, rfl⟩
  | p :: kvs => by
    obtain ⟨h1, h2⟩ := nodictK kvs
    simp only [List.map_cons, PyData.hasDictAll, h1, h2]
    exact ⟨rfl, rfl⟩
theorem vals_at {xs : List V} {us : List Value} (r : Vals xs us) {i : Nat} {u : Value} (h : us[i]? = some u) : ∃ v, xs[i]? = some v ∧ RelV v u := by
  have hi : i < xs.length := by rw [r.length]; exact (List.getElem?_eq_some_iff.mp h).1
  obtain ⟨u', e, q⟩ := r.get (List.getElem?_eq_getElem hi)
  rw [h] at e
  cases e
  exact ⟨_, List.getElem?_eq_getElem hi, q⟩
section
variable {X : Cx} {pins : List (Addr × Obj)} {σ : St} {H : Hp} {s : Shared}
theorem Dq.shw (I : L2.Inv X pins σ H s) {v : V} {d : PyData} (h : Dq X.K H v d) : ∀ {u : Value}, RelV v u → Shw X.prog X.w s.heap u d := by
  induction h with
  | non => intro u r _ _; cases r; exact ⟨⟨_, .none⟩, [], (fun b hb => by cases hb), by rw [PyData.shown]; exact .of_is ReprIs.none _ _ _⟩
  | bl b => intro u r _ _; cases r; exact ⟨⟨_, .bool b⟩, [], (fun b hb => by cases hb), by rw [PyData.shown]; exact .of_is (ReprIs.bool b) _ _ _⟩
  | int i =>
    intro u r hs _
    obtain ⟨t, rfl⟩ := r
    exact ⟨⟨_, .int i t⟩, [], (fun b hb => by cases hb), by rw [PyData.shown]; exact .of_is (ReprIs.int t (by simpa [PyData.showable] using hs)) _ _ _⟩
  | str x _ =>
    intro u r _ hz
    obtain ⟨t, rfl⟩ := r
    exact ⟨⟨_, .str x t⟩, [], (fun b hb => by cases hb), by rw [PyData.shown]; exact .of_is (ReprIs.str x t (by simpa only [PyData.shown] using hz)) _ _ _⟩
  | @lst a xs ds h1 hl _ _ ih =>
    intro u r hs hz
    cases r
    unfold PyData.shown at hz
    obtain ⟨_, its, n, rv, ho⟩ := rdL I h1
    obtain ⟨⟨as, ra⟩, bs, m, k⟩ := shw_all (P := X.prog) (w := X.w) (h := s.heap) (us := its) (ds := ds) (by rw [← rv.length]; exact hl) (fun i u d hu hd => by
      obtain ⟨v, hv, q⟩ := vals_at rv hu
      exact ih i v d hv hd q) (by simpa [PyData.showable] using hs) fun t ht => Nat.le_trans (listText_mem_le ht) hz
    have rr : Reads s.heap (.ref a) (.list ds) _ := .list ho rfl rfl ra
    have nin : a ∉ bs := not_mem_of_deeper rr (by unfold PyData.depth; omega) m
    refine ⟨⟨_, rr⟩, a :: bs, ReadAtMost.cons rr (by unfold PyData.depth; omega) m, ?_⟩
    unfold PyData.depth PyData.shown
    cases its with
    | nil =>
      cases ra
      rw [PyData.shownAll, listText_nil]
      exact ReprK.listEmpty ho rfl rfl
    | cons y its => exact ReprK.list ho rfl rfl nin (by simpa using k.length_eq) fun i z e => k.item i z (by simpa using e)
  | @tup a xs ds h1 hl _ _ ih =>
    intro u r hs hz
    cases r
    unfold PyData.shown at hz
    obtain ⟨its, rv, ⟨o, ho, hc, n, hd⟩, _⟩ := I.tuple h1.sq
    obtain ⟨⟨as, ra⟩, bs, m, k⟩ := shw_all (P := X.prog) (w := X.w) (h := s.heap) (us := its) (ds := ds) (by rw [← rv.length]; exact hl) (fun i u d hu hd => by
      obtain ⟨v, hv, q⟩ := vals_at rv hu
      exact ih i v d hv hd q) (by simpa [PyData.showable] using hs) fun t ht => Nat.le_trans (tupleText_mem_le ht) hz
    have rr : Reads s.heap (.ref a) (.tuple ds) _ := .tuple ho hc hd ra
    have nin : a ∉ bs := not_mem_of_deeper rr (by unfold PyData.depth; omega) m
    refine ⟨⟨_, rr⟩, a :: bs, ReadAtMost.cons rr (by unfold PyData.depth; omega) m, ?_⟩
    unfold PyData.depth PyData.shown
    exact ReprK.tuple ho hc hd nin k
  | @dv a k v d h1 hf h2 _ =>
    intro u r hs hz
    cases r
    unfold PyData.shown at hz
    obtain ⟨o, es, ep, ho, hx, hd, ⟨e, t, e1, e2, e3⟩, hne⟩ := rdD1 I h1
    obtain ⟨av, rv⟩ := h2.reads I (ft_noOb 3 hf) e3
    have ra : ReadsAll s.heap (es.toList.map (·.key)) ([(PyData.str k, d)].map (·.1)) ([] ++ []) := by rw [e1, List.map_cons, e2]; exact .cons (.str _ _) .nil
    have rb : ReadsAll s.heap (es.toList.map (·.val)) ([(PyData.str k, d)].map (·.2)) (av ++ []) := by rw [e1]; exact .cons rv .nil
    have rr : Reads s.heap (.ref a) (.dict [(PyData.str k, d)]) _ := Reads.dict ho hx.1 hd ra rb
    obtain ⟨s1, s2⟩ := PyData.showableKv_split _ (by simpa [PyData.showable] using hs)
    obtain ⟨b1, m1, k1⟩ := ReprAllK.of_readsAll (prog := X.prog) (w := X.w) ra s1 (fun _ => by simp) fun t ht => by
      obtain ⟨p, hp, hl⟩ := PyData.shownKv_key_le _ t ht
      exact Nat.le_trans hl (Nat.le_trans (dictText_mem_le hp) hz)
    obtain ⟨b2, m2, k2⟩ := ReprAllK.of_readsAll (prog := X.prog) (w := X.w) rb s2 (fun _ => by rw [reads_ft 3 hf rv]; simp) fun t ht => by
      obtain ⟨p, hp, hl⟩ := PyData.shownKv_val_le _ t ht
      exact Nat.le_trans hl (Nat.le_trans (dictText_mem_le hp) hz)
    have m := (m1.mono (PyData.depthAll_keys_le _)).append (m2.mono (PyData.depthAll_vals_le _))
    have nin : a ∉ b1 ++ b2 := not_mem_of_deeper rr (by unfold PyData.depth; omega) m
    refine ⟨⟨_, rr⟩, a :: (b1 ++ b2), ReadAtMost.cons rr (by unfold PyData.depth; omega) m, ?_⟩
    unfold PyData.depth PyData.shown
    rw [PyData.shownKv_eq]
    exact ReprK.dict ho hx.1 hd hne nin (ReprEntriesK.of_two es.toList _ _ (k1.more_le (fun b hb => List.mem_append_left _ hb) (PyData.depthAll_keys_le _)) (k2.more_le (fun b hb => List.mem_append_right _ hb) (PyData.depthAll_vals_le _)))
  | ob o cn =>
    intro u r hs hz
    rw [ob_show] at hs; cases hs
  | @dic a kvs h1 _ _ =>
    intro u r hs hz
    cases r
    unfold PyData.shown at hz
    obtain ⟨o, es, ep, ho, hx, hd, hp, hne⟩ := rdD I h1
    obtain ⟨as, ra, bs, rb⟩ := readsKV_of (h := s.heap) hp
    have rr : Reads s.heap (.ref a) (.dict (kvs.map fun p => (PyData.str p.1, PyData.int p.2))) _ := Reads.dict (as := as) (bs := bs) ho hx.1 hd (by rw [List.map_map]; exact ra) (by rw [List.map_map]; exact rb)
    obtain ⟨s1, s2⟩ := PyData.showableKv_split _ (by simpa [PyData.showable] using hs)
    obtain ⟨nd1, nd2⟩ := nodictK kvs
    obtain ⟨b1, m1, k1⟩ := ReprAllK.of_readsAll (prog := X.prog) (w := X.w) (by rw [List.map_map]; exact ra : ReadsAll s.heap (es.toList.map (·.key)) ((kvs.map fun p => (PyData.str p.1, PyData.int p.2)).map (·.1)) as) s1 (fun z => by rw [nd1] at z; cases z) fun t ht => by
      obtain ⟨p, hp, hl⟩ := PyData.shownKv_key_le _ t ht
      exact Nat.le_trans hl (Nat.le_trans (dictText_mem_le hp) hz)
    obtain ⟨b2, m2, k2⟩ := ReprAllK.of_readsAll (prog := X.prog) (w := X.w) (by rw [List.map_map]; exact rb : ReadsAll s.heap (es.toList.map (·.val)) ((kvs.map fun p => (PyData.str p.1, PyData.int p.2)).map (·.2)) bs) s2 (fun z => by rw [nd2] at z; cases z) fun t ht => by
      obtain ⟨p, hp, hl⟩ := PyData.shownKv_val_le _ t ht
      exact Nat.le_trans hl (Nat.le_trans (dictText_mem_le hp) hz)
    have m := (m1.mono (PyData.depthAll_keys_le _)).append (m2.mono (PyData.depthAll_vals_le _))
    have nin : a ∉ b1 ++ b2 := not_mem_of_deeper rr (by unfold PyData.depth; omega) m
    refine ⟨⟨_, rr⟩, a :: (b1 ++ b2), ReadAtMost.cons rr (by unfold PyData.depth; omega) m, ?_⟩
    unfold PyData.depth PyData.shown
    rw [PyData.shownKv_eq]
    exact ReprK.dict ho hx.1 hd hne nin (ReprEntriesK.of_two es.toList _ _ (k1.more_le (fun b hb => List.mem_append_left _ hb) (PyData.depthAll_keys_le _)) (k2.more_le (fun b hb => List.mem_append_right _ hb) (PyData.depthAll_vals_le _)))
end
class FamD {ι : Type} (Xf : ι → Cx) : Prop where
  gd : ∀ i, (Xf i).A.guards = some []
instance {ι : Type} {Xf : ι → Cx} [F : FamG Xf] : FamD Xf := ⟨fun i => F.gd i⟩
theorem call_reprD {X : Cx} {n : Nat} (hr : RoomU n X.A) (hg : X.A.guards = some []) : CallR X (.builtin "repr") (rRepr X.K) := by
  intro pins s σ H vs us Q I r h
  obtain ⟨x, d, rfl, q, hd, k⟩ := h
  obtain ⟨u, rfl, rx⟩ := vals1 r
  obtain ⟨h1, h3, h4⟩ := (ite_some hd).1
  have un := hr.un
  have fin : ∀ (h' : Heap) (t tk : Nat), (∀ b o, s.heap.get? b = some o → h'.get? b = some o) → EP X pins σ Q (.str d.shown t) { s with heap := h', toks := tk } := fun h' t tk hk => ⟨.str d.shown, H, I.kept (t' := tk) hk, ⟨t, rfl⟩, k⟩
  have q0 := q
  cases q with
  | non => cases rx; exact PySem.P.repr_of_none (fin s.heap s.toks (s.toks + 1) fun _ _ e => e)
  | bl b => cases rx; exact PySem.P.repr_of_bool (fin s.heap s.toks (s.toks + 1) fun _ _ e => e)
  | int i =>
    obtain ⟨t, rfl⟩ := rx
    exact PySem.P.repr_of_int (by simpa [PyData.showable] using h1) (fin s.heap s.toks (s.toks + 1) fun _ _ e => e)
  | str z hz =>
    obtain ⟨t, rfl⟩ := rx
    exact PySem.P.repr_of_str (fin s.heap s.toks (s.toks + 1) fun _ _ e => e) h4
  | @lst a xs ds hs hl _ hq =>
    cases rx
    unfold PyData.shown at h4 fin
    unfold PyData.depth at h3
    obtain ⟨_, its, m, rv, ho⟩ := rdL I hs
    obtain ⟨⟨as, ra⟩, bs, mm, kk⟩ := shw_all (P := X.prog) (w := X.w) (h := s.heap) (us := its) (ds := ds) (by rw [← rv.length]; exact hl) (fun i u d hu hd => by
      obtain ⟨v, hv, q⟩ := vals_at rv hu
      exact (hq i v d hv hd).shw I q) (by simpa [PyData.showable] using h1) fun t ht => Nat.le_trans (listText_mem_le ht) h4
    have rr : Reads s.heap (.ref a) (.list ds) _ := .list ho rfl rfl ra
    have nin : a ∉ bs := not_mem_of_deeper rr (by unfold PyData.depth; omega) mm
    refine call_repr_slot (by omega) ⟨_, ho, rfl⟩ PySem.F.slot_list_repr.toG ?_
    cases its with
    | nil =>
      cases ra
      exact call_list_repr_empty ⟨_, ho, rfl⟩ ho rfl ⟨_, _, rfl, by
        have := fin s.heap s.toks (s.toks + 1) fun _ _ e => e
        rw [PyData.shownAll, listText_nil] at this
        exact this⟩
    | cons y its =>
      exact call_list_reprK ho rfl rfl nin (by simpa using kk.length_eq) (fun i z e => kk.item i z (by simpa using e)) hg (fun b _ => Clear.nil b) (by show X.A.units + 1 + _ < cLine; omega) (fun _ _ e => e) (fun h' t tk hk => ⟨_, _, rfl, fin h' t tk hk⟩) h4
  | @tup a xs ds hs hl _ hq =>
    cases rx
    unfold PyData.shown at h4 fin
    unfold PyData.depth at h3
    obtain ⟨its, rv, ⟨o, ho, hc, m, hdd⟩, _⟩ := I.tuple hs.sq
    obtain ⟨⟨as, ra⟩, bs, mm, kk⟩ := shw_all (P := X.prog) (w := X.w) (h := s.heap) (us := its) (ds := ds) (by rw [← rv.length]; exact hl) (fun i u d hu hd => by
      obtain ⟨v, hv, q⟩ := vals_at rv hu
      exact (hq i v d hv hd).shw I q) (by simpa [PyData.showable] using h1) fun t ht => Nat.le_trans (tupleText_mem_le ht) h4
    have rr : Reads s.heap (.ref a) (.tuple ds) _ := .tuple ho hc hdd ra
    have nin : a ∉ bs := not_mem_of_deeper rr (by unfold PyData.depth; omega) mm
    exact call_repr_slot (by omega) ⟨_, ho, hc⟩ PySem.F.slot_tuple_repr (call_tuple_reprK ho hc hdd nin kk hg (fun b _ => Clear.nil b) (by show X.A.units + 1 + _ < cLine; omega) (fun _ _ e => e) (fun h' t tk hk => ⟨_, _, rfl, fin h' t tk hk⟩) h4)
  | @dv a kq v d hs hf hq =>
    cases rx
    obtain ⟨o, es, ep, ho, hx, hdd, ⟨e, t, e1, e2, e3⟩, hne⟩ := rdD1 I hs
    obtain ⟨av, rv⟩ := hq.reads I (ft_noOb 3 hf) e3
    have ea : av = [] := reads_ft 3 hf rv
    have ra : ReadsAll s.heap (es.toList.map (·.key)) ([(PyData.str kq, d)].map (·.1)) ([] ++ []) := by rw [e1, List.map_cons, e2]; exact .cons (.str _ _) .nil
    have rb : ReadsAll s.heap (es.toList.map (·.val)) ([(PyData.str kq, d)].map (·.2)) (av ++ []) := by rw [e1]; exact .cons rv .nil
    have rr : Reads s.heap (.ref a) (.dict [(PyData.str kq, d)]) _ := Reads.dict ho hx.1 hdd ra rb
    exact PySem.repr_of_reads' rr h1 (fun _ z => by
      rw [ea] at z
      simp only [List.append_nil, List.mem_singleton] at z
      rw [← z] at hne
      simp at hne) hg (by omega) (fun _ _ e => e) (fun h' t tk hk => fin h' t tk hk) h4
  | ob o cn =>
    rw [ob_show] at h1; cases h1
  | @dic a kvs hs hz _ =>
    cases rx
    obtain ⟨o, es, ep, ho, hx, hdd, hp, hne⟩ := rdD I hs
    obtain ⟨as, ra, bs, rb⟩ := readsKV_of (h := s.heap) hp
    have rr : Reads s.heap (.ref a) (.dict (kvs.map fun p => (PyData.str p.1, PyData.int p.2))) _ := Reads.dict (as := as) (bs := bs) ho hx.1 hdd (by rw [List.map_map]; exact ra) (by rw [List.map_map]; exact rb)
    have em : ∀ {us : List Value} {ds : List PyData} {as : List Addr}, ReadsAll s.heap us ds as → (∀ d ∈ ds, (∃ z, d = .str z) ∨ ∃ i, d = .int i) → as = [] := fun {us ds as} r => by
      induction ds generalizing us as with
      | nil => intro _; cases r; rfl
      | cons d ds ih =>
        intro hd
        cases r with
        | cons r1 r2 =>
          rw [ih r2 fun d h => hd d (List.mem_cons_of_mem _ h)]
          rcases hd d (List.mem_cons_self ..) with ⟨z, rfl⟩ | ⟨i, rfl⟩
          · cases r1; rfl
          · cases r1; rfl
    have ea : as = [] := em ra fun d hd => by
      obtain ⟨p, _, rfl⟩ := List.mem_map.mp hd
      exact .inl ⟨_, rfl⟩
    have eb : bs = [] := em rb fun d hd => by
      obtain ⟨p, _, rfl⟩ := List.mem_map.mp hd
      exact .inr ⟨_, rfl⟩
    exact PySem.repr_of_reads' rr h1 (fun _ z => by
      rw [ea, eb] at z
      simp only [List.append_nil, List.mem_singleton] at z
      rw [← z] at hne
      simp at hne) hg (by omega) (fun _ _ e => e) (fun h' t tk hk => fin h' t tk hk) h4
section
variable {ι : Type} {Xf : ι → Cx} {P : Program} {w : World} {K : PySem.W.Frag} {mg : Str → Option Value} {base : Heap} {n : Nat} [F : Fam Xf P w K mg base n] [FD : FamD Xf]
include F FD in
theorem clRepr : Cl1 Xf K (.builtin "repr") .s gRepr := by
  refine ⟨rRepr K, fun i => by have := call_reprD (X := Xf i) (F.room i) (FD.gd i); rw [F.kk i] at this; exact this, fun {m G H σ e A x dx d Q} st hx ee k => ?_⟩
  have ee' := ee
  obtain ⟨hc, rfl⟩ := ite_some ee
  exact ⟨x, dx, rfl, hx.mono st.sub, ee', ans_s st (.str _ hc.2.2) k⟩
end
end DL
namespace DL
open PySem L2 PySem.Spec
section
variable {K : PySem.W.Frag} {G H : Hp}
end
def eCallL2 (Fn : DFn) (k1 j1 k2 j2 : Nat) (r : Lf) : Ef := fun e => (r e).bind fun p => (Fn ((p.1.set k1 (p.2.getD j1 .none)).set k2 (p.2.getD j2 .none))).bind fun q => some (q.1, (p.2.set j2 (q.2.getD k2 .none)).set j1 (q.2.getD k1 .none))
section
variable {ι : Type} {Xf : ι → Cx} {P : Program} {w : World} {K : PySem.W.Frag} {mg : Str → Option Value} {base : Heap} {n : Nat} [F : Fam Xf P w K mg base n] [FG : FamG Xf]
variable {m m1 m2 m3 : List Ty} {pos p p2 : Pos} {a b c : Expr} {es : List Expr} {f g h : Ef} {fr : Lf} {ty : Ty} {tys : List Ty} {L : List (Option Nat)}
end
end DL
namespace DL
open PySem L2 PySem.Spec
section
open PyProof.Rows PySem.SeqAt PySem.MeetsSeq PySem.MeetsSeq2 PySem.MeetsSeq3 HT
variable {prog : Program} {w : World} {A : Around} {E : Value → Shared → Prop} {s : Shared}
end
section
open PyProof.Rows
end
def gBack : PyData → Option PyData
  | .tuple xs => some (.tuple xs.reverse)
  | .list xs => some (.list xs.reverse)
  | _ => none
section
variable {ι : Type} {Xf : ι → Cx} {P : Program} {w : World} {K : PySem.W.Frag} {mg : Str → Option Value} {base : Heap} {n : Nat} [F : Fam Xf P w K mg base n]
variable {m m1 : List Ty} {a : Expr} {ef : Ef} {k : Nat} {p1 p2 p3 pos : Pos}
theorem DqA.rev {G : Hp} {xs : List V} {ds : List PyData} (q : DqA K G xs ds) : DqA K G xs.reverse ds.reverse := by
  refine ⟨by rw [List.length_reverse, List.length_reverse]; exact q.1, fun i v d h1 h2 => ?_⟩
  have hi : i < xs.length := by have := (List.getElem?_eq_some_iff.mp h1).1; rw [List.length_reverse] at this; exact this
  rw [List.getElem?_reverse hi] at h1
  rw [List.getElem?_reverse (by rw [← q.1]; exact hi), ← q.1] at h2
  exact q.2 _ v d h1 h2
end
end DL
namespace DL
open PySem L2 PySem.Spec
def fgE (js : List Nat) (e : En) : En := js.foldl (fun e j => e.set j .none) e
def fgOk (js : List Nat) (m : List Ty) : Bool := js.all fun j => match m[j]? with | some .u => true | _ => false
def outE (js jr : List Nat) (o : Out) (e : En) : En := match o with | .rt _ => fgE jr e | _ => fgE js e
def iFg (js : List Nat) (lf : Lf) : Lf := fun e => (lf e).bind fun p => some (p.1, fgE js p.2)
def sPre (js : List Nat) (f : Sf) : Sf := fun e => f (fgE js e)
def sPost (js jr : List Nat) (f : Sf) : Sf := fun e => (f e).bind fun p => some (p.1, outE js jr p.1 p.2)
section
variable {K : PySem.W.Frag} {G H : Hp} {m m1 ml mn : List Ty} {σ : St} {e : En} {A : List Addr} {M : Mk} {f : Sf} {t : TS}
theorem ownA_fg {j : Nat} : ∀ {m : List Ty} {e : En} {σ : St} {A : List Addr} {j : Nat}, m[j]? = some .u → OwnA K G H m e σ A → OwnA K G H m (e.set j .none) σ A := by
  intro m
  induction m with
  | nil => intro e σ A j h; simp at h
  | cons t m ih =>
    intro e σ A j h o
    cases o with
    | @cons _ _ d ds v vs A B o1 o2 =>
      cases j with
      | zero =>
        simp only [List.getElem?_cons_zero, Option.some.injEq] at h
        subst h
        cases o1
        exact OwnA.cons (A := []) (.u _ _) o2
      | succ j =>
        simp only [List.getElem?_cons_succ] at h
        exact OwnA.cons o1 (ih h o2)
theorem stt_fg {js : List Nat} (ok : fgOk js m = true) (st : Stt K m G H σ e A) : Stt K m G H σ (fgE js e) A := by
  induction js generalizing e with
  | nil => exact st
  | cons j js ih =>
    simp only [fgOk, List.all_cons, Bool.and_eq_true] at ok
    refine ih ok.2 ⟨ownA_fg (j := 0) ?_ st.own, st.nd, st.sub⟩
    have := ok.1
    split at this
    · assumption
    · cases this
theorem WalkD.mono {wk : Bool} {G G' : Hp} {J : It} {ds : List PyData} (h : WalkD K wk G J ds) (s : Same G G') : WalkD K wk G' J ds :=
  ⟨fun i H hi s' => h.goes i H hi (s.trans s'), fun H s' => h.stops H (s.trans s'), fun hi s' st y => h.yields hi (s.trans s') st y⟩
theorem DS.post {js jr : List Nat} (h : DS K M m t f mn) (o1 : fgOk js mn = true) (o2 : fgOk js M.b = true) (o3 : fgOk js M.c = true) (o4 : fgOk jr M.r = true) : DS K M m t (sPost js jr f) mn := by
  intro G H σ e A o e' D st hf k
  obtain ⟨⟨o0, e0⟩, hf1, hf⟩ := oBs hf
  simp only [Option.some.injEq, Prod.mk.injEq] at hf
  obtain ⟨rfl, rfl⟩ := hf
  refine h st hf1 ?_
  cases o0 with
  | nx => exact fun G' H' σ' A' s' st' p' => k G' H' σ' A' s' (stt_fg o1 st') p'
  | bk => exact fun G' H' σ' A' s' st' p' => k G' H' σ' A' s' (stt_fg o2 st') p'
  | ct => exact fun G' H' σ' A' s' st' p' => k G' H' σ' A' s' (stt_fg o3 st') p'
  | rt d => exact fun G' H' σ' v Av A' s' st' ov nd p' => k G' H' σ' v Av A' s' (stt_fg o4 st') ov nd p'
end
section
variable {ι : Type} {Xf : ι → Cx} {K : PySem.W.Frag} {M : Mk} {m m1 ml mn : List Ty} {tg iter : Expr} {lf : Lf} {st : Stmt} {body : List Stmt} {f : Sf}
theorem pi_fg {wk : Bool} (js : List Nat) (h : PIt Xf K wk m tg iter lf m1) (l : LeM m1 ml) (ok : fgOk js ml = true := by first | decide | rfl | simp) : PIt Xf K wk m tg iter (iFg js lf) ml := by
  obtain ⟨wi, p, d⟩ := h.ex
  refine ⟨wi, p, fun {G H σ e A ds e' R} st hf k => ?_⟩
  obtain ⟨⟨ds1, e1⟩, hf1, hf⟩ := oBs hf
  simp only [Option.some.injEq, Prod.mk.injEq] at hf
  obtain ⟨rfl, rfl⟩ := hf
  refine d st hf1 fun G1 H1 A1 J s1 st1 wk hz => ?_
  obtain ⟨G2, A2, s2, st2⟩ := stt_le l st1
  exact k G2 H1 A2 J (s1.seq0 s2) (stt_fg ok st2) (wk.mono s2.sg) hz
theorem ss_post (js jr : List Nat) (h : PSsd Xf K M m body f mn) (o1 : fgOk js mn = true := by first | decide | rfl | simp) (o2 : fgOk js M.b = true := by first | decide | rfl | simp) (o3 : fgOk js M.c = true := by first | decide | rfl | simp) (o4 : fgOk jr M.r = true := by first | decide | rfl | simp) : PSsd Xf K M m body (sPost js jr f) mn := by
  obtain ⟨t, p, d⟩ := h.ex
  exact ⟨t, p, d.post o1 o2 o3 o4⟩
theorem ds_pre (js : List Nat) (h : PSd Xf K M m1 st f mn) (l : LeM m m1) (ok : fgOk js m1 = true := by first | decide | rfl | simp) : PSd Xf K M m st (sPre js f) mn := by
  obtain ⟨t, p, d⟩ := h.ex
  refine ⟨t, p, fun {G H σ e A o e' D} st hf k => ?_⟩
  obtain ⟨G2, A2, s2, st2⟩ := stt_le l st
  exact d (stt_fg ok st2) hf (k.back s2 Pin.refl)
end
end DL
namespace DL
open PySem L2 PySem.Spec
def gPopAt (l i : PyData) : Option (PyData × PyData) := match l, i with
  | .list ds, .int k => if -(2 ^ 63) ≤ k ∧ k < 2 ^ 63 then (ixN ds.length k).bind fun j => (ds[j]?).bind fun x => some (x, .list (ds.eraseIdx j)) else none
  | _, _ => none
def gExt (l x : PyData) : Option PyData := match l, x with
  | .list ds, .list es => if ds.length + es.length ≤ sizeLine then some (.list (ds ++ es)) else none
  | _, _ => none
def eNotT (b : Bf) : Ef := fun e => (b e).bind fun p => some (.bool (!p.1), p.2)
def ePopG (j : Nat) (f : Ef) : Ef := fun e => (f e).bind fun p => (gPopAt (p.2.getD j .none) p.1).bind fun q => some (q.1, p.2.set j q.2)
def eExt (j : Nat) (f : Ef) : Ef := fun e => (f e).bind fun p => (gExt (p.2.getD j .none) p.1).bind fun l => some (.none, p.2.set j l)
section
variable {K : PySem.W.Frag} {G H G1 H1 : Hp} {m m1 m2 mn : List Ty} {σ : St} {e : En} {A A1 : List Addr} {t : Ty} {ts : List Ty}
theorem slot_list {j : Nat} {Av : List Addr} {e1 : En} (s1 : Step A G H (Av ++ A1) G1 H1) (nd : (Av ++ A1).Nodup) (st : Stt K m G1 H1 σ e1 A1) (hm : m[j]? = some (.l .s)) :
    ∃ a vs ds, σ[j]? = some (some (.ref a)) ∧ e1.getD j .none = .list ds ∧ G1 a = none ∧ H1 a = some (.lst vs) ∧ vs.length ≤ sizeLine ∧ DqA K G1 vs ds ∧
      ∀ (vs' : List V) (ds' : List PyData), DqA K G1 vs' ds' → vs'.length ≤ sizeLine → ∃ A2, Step A G H A2 G1 (upd H1 a (.lst vs')) ∧ Stt K m G1 (upd H1 a (.lst vs')) σ (e1.set j (.list ds')) A2 := by
  obtain ⟨dj, vj, Aj, A0, h1, h2, h3, h4, hp⟩ := ownA_take st.own hm
  have n1 := List.nodup_append.mp (hp.nodup_iff.mp st.nd)
  cases h3 with
  | @l _ a vs ds Ai ga ha hz oi =>
    obtain ⟨rfl, q⟩ := of_ownA oi
    have haA : a ∈ A1 := hp.mem_iff.mpr (List.mem_append_left _ (List.mem_singleton.mpr rfl))
    have ne : ∀ b ∈ A0, b ≠ a := fun b hb z => n1.2.2 a (List.mem_singleton.mpr rfl) b hb z.symm
    refine ⟨a, vs, ds, h2, by rw [List.getD_eq_getElem?_getD, h1]; rfl, ga, ha, hz, q, fun vs' ds' q' hz' => ?_⟩
    have fr : ∀ b, b ≠ a → upd H1 a (.lst vs') b = H1 b := fun b hb => upd_ne hb
    have oN : Own K G1 (upd H1 a (.lst vs')) (.l .s) (.list ds') (some (.ref a)) (a :: []) := .l ga upd_same hz' (ownA_of q')
    have hu : (m.set j .u)[j]? = some .u := by rw [List.getElem?_set_self (List.getElem?_eq_some_iff.mp hm).1]
    obtain ⟨A2, o2, p2⟩ := ownA_put (ownA_fr (H' := upd H1 a (.lst vs')) h4 (Same.refl G1) (fun b hb => (ownA_at h4 b hb).1) fun b hb => fr b (ne b hb)) hu oN
    rw [List.set_set, set_id (l := m) hm, set_id (l := σ) h2] at o2
    have inA : ∀ b ∈ A2, b ∈ A1 := fun b hb => hp.mem_iff.mpr (p2.mem_iff.mp hb)
    refine ⟨A2, ⟨s1.sg, fun b o hb hbA => ?_, fun b hb => s1.own b (List.mem_append_right _ (inA b hb)), s1.gnew⟩, ⟨o2, p2.nodup_iff.mpr (hp.nodup_iff.mp st.nd), fun b o hb => ?_⟩⟩
    · have hne : b ≠ a := fun z => by
        rcases s1.own a (List.mem_append_right _ haA) with k | k
        · exact hbA (z ▸ k)
        · rw [← z, hb] at k; cases k
      rw [fr b hne]; exact s1.fr b o hb hbA
    · rw [fr b (ne_of_none hb ga)]; exact st.sub b o hb
theorem DqA.erase {vs : List V} {ds : List PyData} (q : DqA K G vs ds) (j : Nat) : DqA K G (vs.eraseIdx j) (ds.eraseIdx j) := by
  refine ⟨by rw [List.length_eraseIdx, List.length_eraseIdx, q.1], fun i v d h1 h2 => ?_⟩
  rw [List.getElem?_eraseIdx] at h1 h2
  split at h1
  · rename_i hi; rw [if_pos hi] at h2; exact q.2 _ _ _ h1 h2
  · rename_i hi; rw [if_neg hi] at h2; exact q.2 _ _ _ h1 h2
theorem DE.ext {ti : TE} {f : Ef} {j : Nat} (hm : m[j]? = some (.l .s)) (he : DE K m ti (.l .s) f m1) (hm1 : m1[j]? = some (.l .s)) : DE K m (tBM K "list" rExtend (tVar j) (tCons ti tNil)) .s (eExt j f) m1 := by
  intro G H σ e A d e' Q st hf k
  obtain ⟨⟨dx, e1⟩, hf1, hf⟩ := oBs hf
  obtain ⟨l, hf2, hf⟩ := oBs hf
  cases hf
  obtain ⟨a0, vs0, ds0, h0, _, _, ha0, _⟩ := slot_list (Av := []) (Step.refl (A := A)) st.nd st hm
  refine ⟨.ref a0, h0, .inl ⟨rfl, _, .inl (.inl ha0)⟩, ?_⟩
  refine he st hf1 fun G1 H1 y Av B1 s1 st1 ov ndv => ?_
  obtain ⟨a, vs, ds, h2, h1, ga, ha, hz, q, wr⟩ := slot_list s1 ndv st1 hm1
  rw [h0] at h2
  cases h2
  cases ov with
  | @l _ b ws es Bi gb hb hzb ob =>
    obtain ⟨rfl, qw⟩ := of_ownA ob
    rw [show List.getD (PyData.list es, e1).2 j .none = .list ds from h1] at hf2
    obtain ⟨hr, hf2⟩ := ite_some hf2
    cases hf2
    have l1 := q.1
    have l2 := qw.1
    obtain ⟨A2, s3, st3⟩ := wr (vs ++ ws) _ (q.append qw) (by rw [List.length_append]; omega)
    exact ⟨a0, b, vs, ws, rfl, rfl, ha, hb, by omega, k G1 _ .non [] A2 s3 st3 (.s .non) st3.nd⟩
end
section
variable {ι : Type} {Xf : ι → Cx} {P : Program} {w : World} {K : PySem.W.Frag} {mg : Str → Option Value} {base : Heap} {n : Nat} [F : Fam Xf P w K mg base n]
variable {m m1 : List Ty} {pos p p2 apos cpos xp : Pos} {a b v : Expr} {f : Ef} {fb : Bf}
theorem pd_dic0 : PD Xf K m (.Dict [] [] pos) .s (eC (.dict [])) m := by
  refine ⟨tDNewK, fun i => pe_dnewK, fun {G H σ e A d e' Q} st hf k => ?_⟩
  cases hf
  intro p hp
  obtain ⟨s1, st1, sg⟩ := new_s (o := .dK []) st hp
  exact k _ _ _ [] A s1 st1 (.s (.dic (kvs := []) (.inl upd_same) (by decide) fun _ => upd_same)) st1.nd
theorem pd_dic1 {x : Str} {c : Int} {j1 j2 p1 p2} : PD Xf K m (.Dict [some (.Constant (.str x) j1 p1)] [.Constant (.int c) j2 p2] pos) .s (eC (.dict [(.str x, .int c)])) m := by
  refine ⟨_, fun i => pe_disp (pps_cons pe_str pe_int pps_nil) rfl rfl (by simp) (by simp), fun {G H σ e A d e' Q} st hf k => ?_⟩
  cases hf
  intro p hp
  refine ⟨upd_same, [(Sum.inr x, .int c)], rfl, by simp, ?_⟩
  obtain ⟨s1, st1, sg⟩ := new_s (o := .dK [(Sum.inr x, .int c)]) st hp
  have e : upd (upd H p (.dK [])) p (.dK (mergeK [] [((Sum.inr x : Key), V.int c)])) = upd H p (.dK [(Sum.inr x, .int c)]) := by
    funext b
    by_cases z : b = p
    · subst z; rw [upd_same, upd_same]; rfl
    · rw [upd_ne z, upd_ne z, upd_ne z]
  rw [e]
  exact k _ _ _ [] A s1 st1 (.s (.dic (kvs := [(x, c)]) (.inl upd_same) (by simp) fun h => by cases h)) st1.nd
variable {M : Mk} {spos : Pos}
def gAddI : PyData → PyData → Option PyData
  | .int i, .int j => some (.int (i + j))
  | _, _ => none
variable {k : Nat} {x : Str} {rty : Ty} {Fn : DFn} [FG : FamG Xf]
def gStr : PyData → Option PyData
  | .int i => if i.natAbs.log2 < 1920 ∧ (toString i : Str).length ≤ sizeLine then some (.str (toString i)) else none
  | .str z => some (.str z)
  | .bool b => some (.str (if b = true then "True" else "False"))
  | _ => none
end
end DL
namespace DL
open PySem L2 PySem.Spec PyProof.Rows
section
variable {P : Program} {w : World} {A : Around} {E : Value → Shared → Prop} {s : Shared}
end
section
variable {X : Cx}
end
section
variable {ι : Type} {Xf : ι → Cx} {P : Program} {w : World} {K : PySem.W.Frag} {mg : Str → Option Value} {base : Heap} {n : Nat} [F : Fam Xf P w K mg base n]
variable {m m1 : List Ty} {pos p pos2 p2 : Pos} {a : Expr} {f : Ef} {x y : Str}
include F
end
end DL
namespace DL
open PySem L2 PySem.Spec
def isK (i : Int) : PyData → Bool
  | .int j => decide (j = i)
  | _ => false
def lookD (kvs : List (PyData × PyData)) (i : Int) : Option PyData := (kvs.find? fun p => isK i p.1).map (·.2)
def putD (kvs : List (PyData × PyData)) (i : Int) (x : PyData) : List (PyData × PyData) :=
  if (kvs.any fun p => isK i p.1) = true then kvs.map (fun p => if isK i p.1 = true then (p.1, x) else p) else kvs ++ [(.int i, x)]
def gDGet (d k : PyData) : Option PyData := match d, k with
  | .dict kvs, .int i => lookD kvs i
  | _, _ => none
def gDGet2 (d k z : PyData) : Option PyData := match d, k with
  | .dict kvs, .int i => some ((lookD kvs i).getD z)
  | _, _ => none
def gDPut (d k x : PyData) : Option PyData := match d, k with
  | .dict kvs, .int i => if kvs.length < sizeLine then some (.dict (putD kvs i x)) else none
  | _, _ => none
def kvD (p : Int × PyData) : PyData × PyData := (.int p.1, p.2)
def kvV (p : Int × V) : Key × V := (Sum.inl p.1, p.2)
def valI (ds : List (Int × PyData)) (i : Int) : Option PyData := (ds.find? fun p => decide (p.1 = i)).map (·.2)
def putI {α : Type} (ds : List (Int × α)) (i : Int) (x : α) : List (Int × α) :=
  if (ds.any fun p => decide (p.1 = i)) = true then ds.map (fun p => if p.1 = i then (p.1, x) else p) else ds ++ [(i, x)]
theorem putK_map (i : Int) (v : V) (kvs : List (Int × V)) : putK (kvs.map kvV) (Sum.inl i) v = (putI kvs i v).map kvV := by
  unfold putK putI
  have e : ((kvs.map kvV).any fun kv => decide (kv.1 = (Sum.inl i : Key))) = kvs.any fun p => decide (p.1 = i) := by
    rw [List.any_map]
    congr 1; funext p
    show decide ((Sum.inl p.1 : Key) = Sum.inl i) = decide (p.1 = i)
    exact decide_eq_decide.mpr ⟨fun h => Sum.inl.inj h, fun h => by rw [h]⟩
  rw [e]
  split
  · rw [List.map_map, List.map_map]
    refine List.map_congr_left fun p _ => ?_
    show (if (Sum.inl p.1 : Key) = Sum.inl i then ((Sum.inl p.1 : Key), v) else kvV p) = kvV (if p.1 = i then (p.1, v) else p)
    by_cases h : p.1 = i
    · rw [if_pos (by rw [h]), if_pos h]; rfl
    · rw [if_neg fun z => h (Sum.inl.inj z), if_neg h]
  · rw [List.map_append]; rfl
theorem putI_keys {α β : Type} {ds : List (Int × α)} {es : List (Int × β)} (h : ds.map (·.1) = es.map (·.1)) (i : Int) (x : α) (y : β) : (putI ds i x).map (·.1) = (putI es i y).map (·.1) := by
  have e : ∀ {γ : Type} (l : List (Int × γ)), (l.any fun p => decide (p.1 = i)) = (l.map (·.1)).any fun k => decide (k = i) := fun l => by rw [List.any_map]; rfl
  have e2 : ∀ {γ : Type} (l : List (Int × γ)) (z : γ), (l.map (fun p => if p.1 = i then (p.1, z) else p)).map (·.1) = l.map (·.1) := fun l z => by
    rw [List.map_map]
    refine List.map_congr_left fun p _ => ?_
    show (if p.1 = i then (p.1, z) else p).1 = p.1
    split <;> rfl
  unfold putI
  rw [e, e, h]
  split
  · rw [e2, e2, h]
  · rw [List.map_append, List.map_append, h]; rfl
theorem putI_len {α : Type} (ds : List (Int × α)) (i : Int) (x : α) : (putI ds i x).length ≤ ds.length + 1 := by
  unfold putI
  split
  · rw [List.length_map]; omega
  · rw [List.length_append]; exact Nat.le_refl _
section
variable {K : PySem.W.Frag} {G H G1 H1 : Hp} {m m1 m2 mn : List Ty} {σ : St} {e : En} {A A1 : List Addr} {t : Ty} {ts : List Ty}
theorem put_rel (i : Int) {v : V} {d : PyData} (hv : Dq K G v d) {kvs : List (Int × V)} {ds : List (Int × PyData)} (h : kvs.map (·.1) = ds.map (·.1)) (r : DqA K G (kvs.map (·.2)) (ds.map (·.2))) : DqA K G ((putI kvs i v).map (·.2)) ((putI ds i d).map (·.2)) := by
  have e : ∀ {γ : Type} (l : List (Int × γ)), (l.any fun p => decide (p.1 = i)) = (l.map (·.1)).any fun k => decide (k = i) := fun l => by rw [List.any_map]; rfl
  unfold putI
  rw [e, e, h]
  split
  · clear e
    rename_i z
    clear z
    induction kvs generalizing ds with
    | nil =>
      cases ds with
      | nil => exact DqA.nil
      | cons _ _ => simp at h
    | cons p kvs ih =>
      cases ds with
      | nil => simp at h
      | cons q ds =>
        simp only [List.map_cons, List.cons.injEq] at h
        rw [List.map_cons, List.map_cons] at r
        rw [List.map_cons, List.map_cons, List.map_cons, List.map_cons]
        refine DqA.cons ?_ (ih h.2 r.tail)
        rw [h.1]
        by_cases z : q.1 = i
        · rw [if_pos z, if_pos z]; exact hv
        · rw [if_neg z, if_neg z]; exact r.head
  · rw [List.map_append, List.map_append]
    exact r.append (DqA.cons hv DqA.nil)
end
def eDGet (j : Nat) (f : Ef) : Ef := fun e => (f e).bind fun p => (gDGet (p.2.getD j .none) p.1).bind fun d => some (d, p.2)
def eDOp (g : PyData → PyData → Option PyData) (j : Nat) (f : Ef) : Ef := fun e => (f e).bind fun p => (g (p.2.getD j .none) p.1).bind fun d => some (d, p.2)
def eDGet2 (j : Nat) (f h : Ef) : Ef := fun e => (f e).bind fun p => (h p.2).bind fun q => (gDGet2 (q.2.getD j .none) p.1 q.1).bind fun d => some (d, q.2)
def sDPutD (j : Nat) (fi fv : Ef) : Sf := fun e => (fv e).bind fun p => (fi p.2).bind fun q => (gDPut (q.2.getD j .none) q.1 p.1).bind fun d => some (.nx, q.2.set j d)
section
variable {ι : Type} {Xf : ι → Cx} {P : Program} {w : World} {K : PySem.W.Frag} {mg : Str → Option Value} {base : Heap} {n : Nat} [F : Fam Xf P w K mg base n]
variable {m m1 m2 m3 : List Ty} {pos p p2 apos cpos xp : Pos} {a b c : Expr} {f g h : Ef}
variable {M : Mk} {spos pos' : Pos}
end
end DL
namespace DL
open PySem L2 PySem.Spec
def gItm (j : Nat) (gi : Gq) : Gf := fun d e => (gi e).bind fun i => match e.getD j .none, i with
  | .list ds, .int k => (ixN ds.length k).map fun z => e.set j (.list (ds.set z d))
  | _, _ => none
section
variable {K : PySem.W.Frag} {G H G1 H1 : Hp} {m m1 m2 mn : List Ty} {σ : St} {e : En} {A A1 : List Addr} {t : Ty} {ts : List Ty}
theorem DG.itm {ti : TE} {gi : Gq} {j : Nat} (hm : m[j]? = some (.l .s)) (hi : DQv K m ti gi) : DG K false m (L2.gSub (tVar j) ti rSetL) [] (gItm j gi) m := by
  intro G H σ e A x d e' Q st q0 hf k
  have q := q0.strong
  obtain ⟨di, h2, hf⟩ := oBs hf
  obtain ⟨a, vs, ds, hs, h1, ga, ha, hz, qv, _⟩ := slot_list (Av := []) (Step.refl (A := A)) st.nd st hm
  rw [h1] at hf
  cases di with
  | int i =>
    obtain ⟨z, hj, hf⟩ := Option.map_eq_some_iff.mp hf
    cases hf
    refine ⟨.ref a, hs, hi st h2 fun H3 y sH3 qy => ?_⟩
    cases qy
    obtain ⟨s2, st2⟩ := stt_grow st sH3
    obtain ⟨a2, vs2, ds2, hs2, h12, ga2, ha2, hz2, qv2, wr⟩ := slot_list (Av := []) s2 st2.nd st2 hm
    rw [hs] at hs2
    cases hs2
    rw [h1] at h12
    cases h12
    have dz : z < ds.length := (ixN_seq hj).2.1
    obtain ⟨A2, s3, st3⟩ := wr (vs2.set z x) (ds.set z d) ⟨by rw [List.length_set, List.length_set, qv2.1], fun i v d' e1 e2 => by
      rw [List.getElem?_set] at e1 e2
      by_cases hz3 : z = i
      · subst hz3
        rw [if_pos rfl] at e1 e2
        have l1 : z < vs2.length := by rw [qv2.1]; exact dz
        simp [l1] at e1
        simp [dz] at e2
        rw [← e1, ← e2]; exact q
      · rw [if_neg hz3] at e1 e2
        exact qv2.2 _ _ _ e1 e2⟩ (by rw [List.length_set]; exact hz2)
    exact ⟨a, vs2, i, z, rfl, rfl, ha2, by rw [qv2.1]; exact hj, k G _ σ A2 s3 st3 (fun _ _ => rfl) rfl⟩
  | _ => cases hf
end
section
variable {ι : Type} {Xf : ι → Cx} {P : Program} {w : World} {K : PySem.W.Frag} {mg : Str → Option Value} {base : Heap} {n : Nat} [F : Fam Xf P w K mg base n]
variable {m m1 m2 m3 : List Ty} {pos p p2 apos cpos xp : Pos} {a b c i : Expr} {f g h : Ef} {gi : Gq}
end
end DL
namespace DL
open PySem L2 PySem.Spec PyProof.Rows
section
variable {X : Cx} {pins : List (Addr × Obj)} {σ : L2.St} {H : Hp} {s : Shared} {Q : VK}
end
end DL
namespace DL
open PySem L2 PySem.Spec
section
variable {ι : Type} {Xf : ι → Cx} {P : Program} {w : World} {K : PySem.W.Frag} {mg : Str → Option Value} {base : Heap} {n : Nat} [F : Fam Xf P w K mg base n]
variable {m m1 m2 m3 : List Ty} {pos p p2 apos cpos xp : Pos} {a b c : Expr} {f g h : Ef}
end
end DL
namespace DL
open PySem L2 PySem.Spec
def zip3D : List PyData → List PyData → List PyData → List PyData
  | a :: as, b :: bs, c :: cs => .tuple [a, b, c] :: zip3D as bs cs
  | _, _, _ => []
section
variable {K : PySem.W.Frag} {G H : Hp} {m : List Ty} {σ : St} {e : En} {A : List Addr}
end
def zip3S : PyData → PyData → PyData → Option (List PyData)
  | .tuple xs, .tuple ys, .tuple us => some (zip3D xs ys us)
  | _, _, _ => none
def iZp3 (f g h : Ef) : Lf := fun e => (f e).bind fun p => (g p.2).bind fun q => (h q.2).bind fun r => (zip3S p.1 q.1 r.1).bind fun ds => some (ds, r.2)
section
variable {ι : Type} {Xf : ι → Cx} {P : Program} {w : World} {K : PySem.W.Frag} {mg : Str → Option Value} {base : Heap} {n : Nat} [F : Fam Xf P w K mg base n]
variable {m m1 m2 m3 : List Ty} {pos p p2 tpos : Pos} {a b c tg : Expr} {elts : List Expr} {kk : Nat} {f g h : Ef}
include F
end
@[simp] theorem riZp3 {f g h : Ef} {e : En} : iZp3 f g h e = (f e).bind fun p => (g p.2).bind fun q => (h q.2).bind fun r => (zip3S p.1 q.1 r.1).bind fun ds => some (ds, r.2) := rfl
@[simp] theorem xZip3 {xs ys us : List PyData} : zip3S (.tuple xs) (.tuple ys) (.tuple us) = some (zip3D xs ys us) := rfl
end DL
namespace DL
open PySem L2 PySem.Spec
def evens {α : Type} : List α → List α
  | [] => []
  | [a] => [a]
  | a :: _ :: r => a :: evens r
section
open PyProof.Rows PySem.SeqAt PySem.MeetsSeq PySem.MeetsSeq2 PySem.MeetsSeq3 HT
variable {prog : Program} {w : World} {A : Around} {E : Value → Shared → Prop} {s : Shared}
end
section
open PyProof.Rows
end
def gTwo : PyData → Option PyData
  | .tuple xs => some (.tuple (evens xs))
  | _ => none
section
variable {ι : Type} {Xf : ι → Cx} {P : Program} {w : World} {K : PySem.W.Frag} {mg : Str → Option Value} {base : Heap} {n : Nat} [F : Fam Xf P w K mg base n]
variable {m m1 : List Ty} {a : Expr} {ef : Ef} {k : Nat} {p1 p3 pos : Pos}
end
@[simp] theorem xTwo {xs : List PyData} : gTwo (.tuple xs) = some (.tuple (evens xs)) := rfl
end DL
namespace DL
open PySem L2 PySem.Spec
section
variable {K : PySem.W.Frag} {M : Mk} {G H G1 H1 : Hp} {m m1 m2 mn : List Ty} {σ σ1 : St} {e : En} {A A1 : List Addr} {D : Ends} {e' : En} {o : Out} {t u : TS} {f g : Sf} {ef : Ef} {bf : Bf} {lf : Lf}
end
section
variable {ι : Type} {Xf : ι → Cx} {P : Program} {w : World} {K : PySem.W.Frag} {mg : Str → Option Value} {base : Heap} {n : Nat} [F : Fam Xf P w K mg base n]
variable {M : Mk} {m m1 m2 mn ml : List Ty} {pos p p2 spos xp : Pos} {a b c v tg iter : Expr} {st : Stmt} {rest body orelse : List Stmt} {f g : Sf} {ef eg : Ef} {bf : Bf} {lf : Lf} {gf : Gf} {sl : List Nat} {ty t1 t2 t3 : Ty}
end
end DL
namespace DL
open PySem L2 PySem.Spec
def gTpL (k : Nat) (r : Gsf) : Gf := fun d e => match d with | .list ds => if ds.length = k then r ds e else none | _ => none
section
variable {ι : Type} {Xf : ι → Cx} {P : Program} {w : World} {K : PySem.W.Frag} {mg : Str → Option Value} {base : Heap} {n : Nat} [F : Fam Xf P w K mg base n]
variable {m m1 : List Ty} {tpos : Pos} {elts : List Expr} {sl : List Nat} {gs : Gsf}
end
def un2L : PyData → Option (PyData × PyData)
  | .list [a, b] => some (a, b)
  | _ => none
@[simp] theorem un2L_ok {x y : PyData} : un2L (.list [x, y]) = some (x, y) := rfl
@[simp] theorem rgTpL2 {gf gf2 : Gf} {d : PyData} {e : En} : gTpL 2 (gsCons gf (gsCons gf2 gsNil)) d e = (un2L d).bind fun p => (gf p.1 e).bind fun e => gf2 p.2 e := by
  unfold gTpL un2L
  cases d with
  | list ds =>
    match ds with
    | [] => rfl
    | [a] => rfl
    | [a, b] =>
      show ((gf a e).bind fun e => (gf2 b e).bind fun e => some e) = (gf a e).bind fun e => gf2 b e
      congr 1; funext e1
      cases gf2 b e1 <;> rfl
    | _ :: _ :: _ :: _ => rfl
  | _ => rfl
end DL
namespace DL
open PySem L2 PySem.Spec
section
variable {ι : Type} {Xf : ι → Cx} {P : Program} {w : World} {K : PySem.W.Frag} {mg : Str → Option Value} {base : Heap} {n : Nat} [F : Fam Xf P w K mg base n]
variable {m : List Ty} {pos p p1 p2 : Pos}
end
end DL
namespace DL
open PySem L2 PySem.Spec
def gDisp2 (k1 v1 k2 v2 : PyData) : Option PyData := match k1, k2 with
  | .int i, .int j => some (.dict (putD (putD [] i v1) j v2))
  | _, _ => none
def eDisp2 (f1 f2 f3 f4 : Ef) : Ef := fun e => (f1 e).bind fun p1 => (f2 p1.2).bind fun p2 => (f3 p2.2).bind fun p3 => (f4 p3.2).bind fun p4 => (gDisp2 p1.1 p2.1 p3.1 p4.1).bind fun d => some (d, p4.2)
section
variable {ι : Type} {Xf : ι → Cx} {P : Program} {w : World} {K : PySem.W.Frag} {mg : Str → Option Value} {base : Heap} {n : Nat} [F : Fam Xf P w K mg base n]
variable {m m1 m2 m3 m4 : List Ty} {pos : Pos} {a b c d0 : Expr} {f1 f2 f3 f4 : Ef}
end
@[simp] theorem reDisp2 {f1 f2 f3 f4 : Ef} {e : En} : eDisp2 f1 f2 f3 f4 e = (f1 e).bind fun p1 => (f2 p1.2).bind fun p2 => (f3 p2.2).bind fun p3 => (f4 p3.2).bind fun p4 => (gDisp2 p1.1 p2.1 p3.1 p4.1).bind fun d => some (d, p4.2) := rfl
end DL
namespace DL
open PySem L2 PySem.Spec
section
variable {ι : Type} {Xf : ι → Cx} {P : Program} {w : World} {K : PySem.W.Frag} {mg : Str → Option Value} {base : Heap} {n : Nat} [F : Fam Xf P w K mg base n]
variable {m : List Ty} {pos : Pos}
include F
end
end DL
namespace DL
open PySem L2 PySem.Spec
section
variable {K : PySem.W.Frag} {G H : Hp} {m : List Ty} {σ : St} {e : En} {A : List Addr}
end
def zipMS : PyData → PyData → Option (List PyData)
  | .tuple xs, .list ys => some (zipD xs ys)
  | _, _ => none
def iZpM (f g : Ef) : Lf := fun e => (f e).bind fun p => (g p.2).bind fun q => (zipMS p.1 q.1).bind fun ds => some (ds, q.2)
section
variable {ι : Type} {Xf : ι → Cx} {P : Program} {w : World} {K : PySem.W.Frag} {mg : Str → Option Value} {base : Heap} {n : Nat} [F : Fam Xf P w K mg base n]
variable {m m1 m2 m3 : List Ty} {pos p p2 tpos : Pos} {a b c tg : Expr} {elts : List Expr} {kk : Nat} {f g h : Ef}
include F
end
@[simp] theorem riZpM {f g : Ef} {e : En} : iZpM f g e = (f e).bind fun p => (g p.2).bind fun q => (zipMS p.1 q.1).bind fun ds => some (ds, q.2) := rfl
@[simp] theorem xZipM {xs ys : List PyData} : zipMS (.tuple xs) (.list ys) = some (zipD xs ys) := rfl
end DL
namespace DL
open PySem L2 PySem.Spec
section
variable {ι : Type} {Xf : ι → Cx} {P : Program} {w : World} {K : PySem.W.Frag} {mg : Str → Option Value} {base : Heap} {n : Nat} [F : Fam Xf P w K mg base n]
variable {m : List Ty} {pos p1 : Pos}
end
end DL
namespace DL
open PySem L2 PySem.Spec
def asB : PyData → Option Bool
  | .bool b => some b
  | _ => none
def ifB {α : Type} (v : PyData) (a b : Option α) : Option α := match v with
  | .bool true => a
  | .bool false => b
  | _ => none
def grd (b : Bool) : Option Unit := if b = true then some () else none
def un2 : PyData → Option (PyData × PyData)
  | .tuple [a, b] => some (a, b)
  | _ => none
def un3 : PyData → Option (PyData × PyData × PyData)
  | .tuple [a, b, c] => some (a, b, c)
  | _ => none
def un4 : PyData → Option (PyData × PyData × PyData × PyData)
  | .tuple [a, b, c, d] => some (a, b, c, d)
  | _ => none
def gApp (l x : PyData) : Option PyData := match l with
  | .list ds => if ds.length < sizeLine then some (.list (ds ++ [x])) else none
  | _ => none
def gPop : PyData → Option (PyData × PyData)
  | .list ds => (ds[ds.length - 1]?).bind fun x => some (x, .list ds.dropLast)
  | _ => none
def gSet (l i x : PyData) : Option PyData := match l, i with
  | .list ds, .int k => (ixN ds.length k).bind fun j => some (.list (ds.set j x))
  | _, _ => none
def gEn (d : PyData) : Option (List PyData) := (seqD d).bind fun ds => some (enumD 0 ds)
def consO {α : Type} : Option α → List α → List α
  | some y, ys => y :: ys
  | none, ys => ys
def mapS {α β : Type} : List α → (α → Option β) → Option (List β)
  | [], _ => some []
  | x :: xs, f => (f x).bind fun y => (mapS xs f).bind fun ys => some (y :: ys)
def filS {α β : Type} : List α → (α → Option (Option β)) → Option (List β)
  | [], _ => some []
  | x :: xs, f => (f x).bind fun y => (filS xs f).bind fun ys => some (consO y ys)
def forS {α σ : Type} : List α → (α → σ → Option (Out × σ)) → σ → Option (Out × σ)
  | [], _, s => some (.nx, s)
  | x :: xs, f, s => (f x s).bind fun p => match p.1 with
    | .nx => forS xs f p.2
    | .ct => forS xs f p.2
    | .bk => some (.nx, p.2)
    | .rt r => some (.rt r, p.2)
def whR {σ : Type} : Nat → (σ → Option Bool) → (σ → Option (Out × σ)) → σ → Option (Out × σ)
  | 0, _, _, _ => none
  | k + 1, c, f, s => (c s).bind fun b => if b = true then (f s).bind fun p => match p.1 with
    | .nx => whR k c f p.2
    | .ct => whR k c f p.2
    | .bk => some (.nx, p.2)
    | .rt r => some (.rt r, p.2) else some (.nx, s)
def thenS {σ ρ : Type} (p : Out × σ) (k : σ → Option ρ) (r : PyData → σ → Option ρ) : Option ρ := match p.1 with
  | .rt d => r d p.2
  | _ => k p.2
def ctnx : Out → Out
  | .ct => .nx
  | o => o
theorem lc_map {vs : List Nat} {gf : Gf} {ef : Ef} {E : En} (f : PyData → Option PyData) (h : ∀ d, ((gf d E).bind fun e1 => (ef e1).bind fun q => some (q.1, restE E q.2 vs)) = (f d).bind fun r => some (r, E)) :
    ∀ xs, lcL vs gf bYes ef xs E = (mapS xs f).bind fun r => some (r, E)
  | [] => rfl
  | x :: xs => by
    have ih := lc_map f h xs
    have hx := h x
    unfold lcL mapS
    simp only [bYes, Option.bind_some, if_true]
    cases hf : f x with
    | none =>
      rw [hf] at hx
      simp only [Option.bind_none] at hx
      cases hg : gf x E with
      | none => rfl
      | some e1 =>
        rw [hg] at hx
        simp only [Option.bind_some, Option.bind_eq_none_iff] at hx
        cases he : ef e1 with
        | none => simp [he]
        | some q => exact absurd (hx q he) (by simp)
    | some y =>
      rw [hf] at hx
      cases hg : gf x E with
      | none => rw [hg] at hx; simp at hx
      | some e1 =>
        rw [hg] at hx
        simp only [Option.bind_some] at hx ⊢
        cases he : ef e1 with
        | none => rw [he] at hx; simp at hx
        | some q =>
          rw [he] at hx
          simp only [Option.bind_some, Option.some.injEq, Prod.mk.injEq] at hx ⊢
          rw [hx.2, ih, hx.1]
          cases mapS xs f <;> rfl
def lcB (vs : List Nat) (gf : Gf) (tf : Bf) (ef : Ef) (d : PyData) (E : En) : Option (Option PyData × En) :=
  (gf d E).bind fun e1 => (tf e1).bind fun p => if p.1 = true then (ef p.2).bind fun q => some (some q.1, restE E q.2 vs) else some (none, restE E p.2 vs)
theorem lcL_B {vs : List Nat} {gf : Gf} {tf : Bf} {ef : Ef} {x : PyData} {xs : List PyData} {E : En} : lcL vs gf tf ef (x :: xs) E = (lcB vs gf tf ef x E).bind fun p => (lcL vs gf tf ef xs p.2).bind fun r => some (consO p.1 r.1, r.2) := by
  show ((gf x E).bind fun e1 => (tf e1).bind fun p => if p.1 = true then (ef p.2).bind fun q => (lcL vs gf tf ef xs (restE E q.2 vs)).bind fun r => some (q.1 :: r.1, r.2) else lcL vs gf tf ef xs (restE E p.2 vs)) = _
  unfold lcB
  cases gf x E with
  | none => rfl
  | some e1 =>
    simp only [Option.bind_some]
    cases tf e1 with
    | none => rfl
    | some p =>
      simp only [Option.bind_some]
      split
      · cases ef p.2 <;> rfl
      · simp only [Option.bind_some]
        cases lcL vs gf tf ef xs (restE E p.2 vs) <;> rfl
theorem lc_fil {vs : List Nat} {gf : Gf} {tf : Bf} {ef : Ef} {E : En} (f : PyData → Option (Option PyData)) (h : ∀ d, lcB vs gf tf ef d E = (f d).bind fun r => some (r, E)) :
    ∀ xs, lcL vs gf tf ef xs E = (filS xs f).bind fun r => some (r, E)
  | [] => rfl
  | x :: xs => by
    rw [lcL_B, h x]
    unfold filS
    cases hf : f x with
    | none => rfl
    | some y =>
      simp only [Option.bind_some]
      rw [lc_fil f h xs]
      cases filS xs f <;> rfl
theorem for_ret {σ : Type} {gf : Gf} {sf : Sf} {jr : List Nat} (emb : σ → En) (f : PyData → σ → Option (Out × σ)) (h : ∀ d s, ((gf d (emb s)).bind fun e1 => (sf e1).bind fun p => some (ctnx p.1, p.2)) = (f d s).bind fun r => some (ctnx r.1, outE [] jr r.1 (emb r.2))) :
    ∀ xs s, forL gf sf xs (emb s) = (forS xs f s).bind fun r => thenS r (fun s' => some (.nx, emb s')) (fun d s' => some (.rt d, fgE jr (emb s')))
  | [], s => rfl
  | x :: xs, s => by
    have hx := h x s
    unfold forL forS
    cases hg : gf x (emb s) with
    | none =>
      rw [hg] at hx
      cases hf : f x s with
      | none => rfl
      | some y => rw [hf] at hx; simp at hx
    | some e1 =>
      rw [hg] at hx
      simp only [Option.bind_some] at hx ⊢
      cases he : sf e1 with
      | none =>
        rw [he] at hx
        cases hf : f x s with
        | none => rfl
        | some y => rw [hf] at hx; simp at hx
      | some p =>
        rw [he] at hx
        cases hf : f x s with
        | none => rw [hf] at hx; simp at hx
        | some y =>
          rw [hf] at hx
          simp only [Option.bind_some, Option.some.injEq, Prod.mk.injEq] at hx ⊢
          have ih := for_ret emb f h xs y.2
          obtain ⟨o, e2⟩ := p
          obtain ⟨q, s2⟩ := y
          simp only at hx ih ⊢
          rw [hx.2]
          cases q <;> cases o <;> first | (cases hx.1; done) | exact ih | (have := hx.1; simp [ctnx] at this; done) | skip
          · rfl
          · have := hx.1; simp only [ctnx, Out.rt.injEq] at this; subst this; rfl
theorem wh_ret {σ : Type} {cf : Bf} {sf : Sf} {jr : List Nat} (emb : σ → En) (c : σ → Option Bool) (f : σ → Option (Out × σ)) (hc : ∀ s, cf (emb s) = (c s).bind fun b => some (b, emb s)) (h : ∀ s, ((sf (emb s)).bind fun p => some (ctnx p.1, p.2)) = (f s).bind fun r => some (ctnx r.1, outE [] jr r.1 (emb r.2))) :
    ∀ n s, whL cf sf n (emb s) = (whR n c f s).bind fun r => thenS r (fun s' => some (.nx, emb s')) (fun d s' => some (.rt d, fgE jr (emb s')))
  | 0, s => rfl
  | n + 1, s => by
    have hx := h s
    unfold whL whR
    rw [hc]
    cases hcs : c s with
    | none => rfl
    | some b =>
      simp only [Option.bind_some]
      cases b with
      | false => rfl
      | true =>
        simp only [if_true]
        cases he : sf (emb s) with
        | none =>
          rw [he] at hx
          cases hf : f s with
          | none => rfl
          | some y => rw [hf] at hx; simp at hx
        | some p =>
          rw [he] at hx
          cases hf : f s with
          | none => rw [hf] at hx; simp at hx
          | some y =>
            rw [hf] at hx
            simp only [Option.bind_some, Option.some.injEq, Prod.mk.injEq] at hx ⊢
            have ih := wh_ret emb c f hc h n y.2
            obtain ⟨o, e2⟩ := p
            obtain ⟨q, s2⟩ := y
            simp only at hx ih ⊢
            rw [hx.2]
            cases q <;> cases o <;> first | (cases hx.1; done) | exact ih | (have := hx.1; simp [ctnx] at this; done) | skip
            · rfl
            · have := hx.1; simp only [ctnx, Out.rt.injEq] at this; subst this; rfl
end DL
namespace DL
open PySem L2 PySem.Spec
def seqR (p : Out × En) (k : En → Option (Out × En)) : Option (Out × En) := match p.1 with
  | .nx => k p.2
  | o => some (o, p.2)
def retR (ptys : List Ty) (ds : List PyData) (p : Out × En) : Option (PyData × List PyData) := match p.1 with
  | .rt d => some (d, fins ptys ds p.2)
  | .nx => some (.none, fins ptys ds p.2)
  | _ => none
def two {α : Type} (xs : List PyData) (k : PyData → PyData → Option α) : Option α := match xs with
  | [x, y] => k x y
  | _ => none
def three {α : Type} (xs : List PyData) (k : PyData → PyData → PyData → Option α) : Option α := match xs with
  | [x, y, z] => k x y z
  | _ => none
def gLenL : PyData → Option PyData
  | .list xs => some (.int xs.length)
  | _ => none
section
variable {f g h : Ef} {a b : Ef} {e e' e1 e2 : En} {j : Nat} {d d1 d2 : PyData} {fb gb : Bf} {fr : Lf} {sf sg : Sf} {fq gq gi : Gq} {pt : Pf} {gf gf2 gf3 gf4 : Gf} {gs : Gsf} {o : Out} {α β : Type}
@[simp] theorem seqR_nx {k : En → Option (Out × En)} : seqR (.nx, e) k = k e := rfl
@[simp] theorem seqR_bk {k : En → Option (Out × En)} : seqR (.bk, e) k = some (.bk, e) := rfl
@[simp] theorem seqR_ct {k : En → Option (Out × En)} : seqR (.ct, e) k = some (.ct, e) := rfl
@[simp] theorem seqR_rt {k : En → Option (Out × En)} : seqR (.rt d, e) k = some (.rt d, e) := rfl
@[simp] theorem retR_nx {ptys : List Ty} {ds : List PyData} : retR ptys ds (.nx, e) = some (.none, fins ptys ds e) := rfl
@[simp] theorem retR_rt {ptys : List Ty} {ds : List PyData} : retR ptys ds (.rt d, e) = some (d, fins ptys ds e) := rfl
@[simp] theorem two_ok {x y : PyData} {k : PyData → PyData → Option α} : two [x, y] k = k x y := rfl
@[simp] theorem three_ok {x y z : PyData} {k : PyData → PyData → PyData → Option α} : three [x, y, z] k = k x y z := rfl
@[simp] theorem ctnx_nx : ctnx .nx = .nx := rfl
@[simp] theorem ctnx_ct : ctnx .ct = .nx := rfl
@[simp] theorem ctnx_bk : ctnx .bk = .bk := rfl
@[simp] theorem ctnx_rt : ctnx (.rt d) = .rt d := rfl
@[simp] theorem outE_rt {js jr : List Nat} : outE js jr (.rt d) e = fgE jr e := rfl
@[simp] theorem outE_nx {js jr : List Nat} : outE js jr .nx e = fgE js e := rfl
@[simp] theorem outE_bk {js jr : List Nat} : outE js jr .bk e = fgE js e := rfl
@[simp] theorem outE_ct {js jr : List Nat} : outE js jr .ct e = fgE js e := rfl
@[simp] theorem fgE_nil : fgE [] e = e := rfl
@[simp] theorem fgE_cons {js : List Nat} : fgE (j :: js) e = fgE js (e.set j .none) := rfl
theorem ite_bind' {c : Prop} [Decidable c] {x y : Option α} {k : α → Option β} : (if c then x else y).bind k = if c then x.bind k else y.bind k := by split <;> rfl
theorem ifB_bind {v : PyData} {x y : Option α} {k : α → Option β} : (ifB v x y).bind k = ifB v (x.bind k) (y.bind k) := by
  unfold ifB
  split <;> rfl
theorem thenS_bind {σ : Type} {p : Out × σ} {K : σ → Option α} {R : PyData → σ → Option α} {k : α → Option β} : (thenS p K R).bind k = thenS p (fun s => (K s).bind k) (fun d s => (R d s).bind k) := by
  unfold thenS
  split <;> rfl
@[simp] theorem thenS_nx {σ : Type} {s : σ} {K : σ → Option α} {R : PyData → σ → Option α} : thenS (.nx, s) K R = K s := rfl
@[simp] theorem thenS_rt {σ : Type} {s : σ} {K : σ → Option α} {R : PyData → σ → Option α} : thenS (.rt d, s) K R = R d s := rfl
@[simp] theorem rVar : eVar j e = some (e.getD j .none, e) := rfl
@[simp] theorem rC : eC d e = some (d, e) := rfl
@[simp] theorem r1 {gg : PyData → Option PyData} : DL.e1 gg a e = (a e).bind fun p => (gg p.1).bind fun r => some (r, p.2) := rfl
@[simp] theorem r2 {gg : PyData → PyData → Option PyData} : DL.e2 gg a b e = (a e).bind fun p => (b p.2).bind fun q => (gg p.1 q.1).bind fun r => some (r, q.2) := rfl
@[simp] theorem rTup : eTup fr e = (fr e).bind fun p => some (.tuple p.1, p.2) := rfl
@[simp] theorem rLst : eLst fr e = (fr e).bind fun p => some (.list p.1, p.2) := rfl
@[simp] theorem rlNil : lNil e = some ([], e) := rfl
@[simp] theorem rlCons : lCons f fr e = (f e).bind fun p => (fr p.2).bind fun q => some (p.1 :: q.1, q.2) := rfl
@[simp] theorem rLend : eLend e = some (.none, e) := rfl
@[simp] theorem rCall {Fn : DFn} : eCall Fn fr e = (fr e).bind fun p => (Fn p.1).bind fun q => some (q.1, p.2) := rfl
@[simp] theorem rCallL {Fn : DFn} {k : Nat} : eCallL Fn k j fr e = (fr e).bind fun p => (Fn (p.1.set k (p.2.getD j .none))).bind fun q => some (q.1, p.2.set j (q.2.getD k .none)) := rfl
@[simp] theorem rCallL2 {Fn : DFn} {k1 j1 k2 j2 : Nat} : eCallL2 Fn k1 j1 k2 j2 fr e = (fr e).bind fun p => (Fn ((p.1.set k1 (p.2.getD j1 .none)).set k2 (p.2.getD j2 .none))).bind fun q => some (q.1, (p.2.set j2 (q.2.getD k2 .none)).set j1 (q.2.getD k1 .none)) := rfl
@[simp] theorem rbOf : bOf f e = (f e).bind fun p => (gTruth p.1).bind fun b => some (b, p.2) := rfl
@[simp] theorem rbT : bT f e = (f e).bind fun p => (asB p.1).bind fun b => some (b, p.2) := by
  show ((f e).bind fun p => match p.1 with | .bool b => some (b, p.2) | _ => none : Option (Bool × En)) = _
  congr 1; funext p; cases p.1 <;> rfl
@[simp] theorem rbAnd : bAnd fb gb e = (fb e).bind fun p => if p.1 = true then gb p.2 else some (false, p.2) := rfl
@[simp] theorem rbOr : bOr fb gb e = (fb e).bind fun p => if p.1 = true then some (true, p.2) else gb p.2 := rfl
@[simp] theorem rbNot : bNot fb e = (fb e).bind fun p => some (!p.1, p.2) := rfl
@[simp] theorem reAnd : eAnd f g e = (f e).bind fun p => ifB p.1 (g p.2) (some (.bool false, p.2)) := by
  show ((f e).bind fun p => match p.1 with
    | .bool true => g p.2
    | .bool false => some (.bool false, p.2)
    | _ => none : Option (PyData × En)) = _
  congr 1
@[simp] theorem reOr : eOr f g e = (f e).bind fun p => ifB p.1 (some (.bool true, p.2)) (g p.2) := by
  show ((f e).bind fun p => match p.1 with
    | .bool true => some (.bool true, p.2)
    | .bool false => g p.2
    | _ => none : Option (PyData × En)) = _
  congr 1
@[simp] theorem reIf : eIf fb f g e = (fb e).bind fun p => if p.1 = true then f p.2 else g p.2 := rfl
@[simp] theorem rChain {g1 g2 : PyData → PyData → Option PyData} : eChain g1 g2 f g h e = (f e).bind fun p => (g p.2).bind fun q => (g1 p.1 q.1).bind fun r => ifB r ((h q.2).bind fun t => (g2 q.1 t.1).bind fun z => some (z, t.2)) (some (.bool false, q.2)) := by
  show ((f e).bind fun p => (g p.2).bind fun q => (g1 p.1 q.1).bind fun r => match r with
    | .bool true => (h q.2).bind fun t => (g2 q.1 t.1).bind fun z => some (z, t.2)
    | .bool false => some (.bool false, q.2)
    | _ => none : Option (PyData × En)) = _
  congr 1
@[simp] theorem rqVar : qVar j e = some (e.getD j .none) := rfl
@[simp] theorem rqC : qC d e = some d := rfl
@[simp] theorem rq1 {gg : PyData → Option PyData} : DL.q1 gg fq e = (fq e).bind gg := rfl
@[simp] theorem rq2 {gg : PyData → PyData → Option PyData} : DL.q2 gg fq gq e = (fq e).bind fun x => (gq e).bind fun y => gg x y := rfl
@[simp] theorem reQ : eQ fq e = (fq e).bind fun d => (grd (scD d)).bind fun _ => some (d, e) := by
  show ((fq e).bind fun d => if scD d = true then some (d, e) else none) = _
  congr 1; funext d; unfold grd; split <;> rfl
@[simp] theorem rbQ : bQ fq e = (fq e).bind fun d => (gTruth d).bind fun b => some (b, e) := by
  show ((fq e).bind fun d => (gTruth d).map fun b => (b, e)) = _
  congr 1; funext d; cases gTruth d <;> rfl
@[simp] theorem rbQT : bQT fq e = (fq e).bind fun d => (asB d).bind fun b => some (b, e) := by
  show ((fq e).bind fun d => match d with | .bool b => some (b, e) | _ => none : Option (Bool × En)) = _
  congr 1; funext d; cases d <;> rfl
@[simp] theorem rqS : qS fq e = (fq e).bind fun d => (grd (scD d)).bind fun _ => some d := by
  show ((fq e).bind fun d => if scD d = true then some d else none) = _
  congr 1; funext d; unfold grd; split <;> rfl
@[simp] theorem rpVar : pVar j e d = e.set j d := rfl
@[simp] theorem rSub1 : gSub1 gq gi e = (gq e).bind fun d => (gi e).bind fun i => itemD d i := rfl
@[simp] theorem rpSub1 : pSub1 gq gi pt e d = pt e (setD ((gq e).getD .none) ((gi e).getD .none) d) := rfl
@[simp] theorem rItm : eItm gq gi e = (gq e).bind fun d => (gi e).bind fun i => (itemD d i).bind fun x => some (x, e) := by
  show ((gq e).bind fun d => (gi e).bind fun i => (itemD d i).map fun x => (x, e)) = _
  congr 1; funext d; congr 1; funext i; cases itemD d i <;> rfl
@[simp] theorem rItmG : eItmG j f e = (f e).bind fun p => (itemD (p.2.getD j .none) p.1).bind fun x => some (x, p.2) := by
  show ((f e).bind fun p => (itemD (p.2.getD j .none) p.1).map fun x => (x, p.2)) = _
  congr 1; funext p; cases itemD (p.2.getD j .none) p.1 <;> rfl
@[simp] theorem rApp : eApp j f e = (f e).bind fun p => (gApp (e.getD j .none) p.1).bind fun l => some (.none, p.2.set j l) := by
  show ((f e).bind fun p => match e.getD j .none with
    | .list ds => if ds.length < sizeLine then some (.none, p.2.set j (.list (ds ++ [p.1]))) else none
    | _ => none : Option (PyData × En)) = _
  congr 1; funext p
  unfold gApp
  cases e.getD j .none with
  | list ds => show (if _ then _ else _) = (if _ then _ else _ : Option PyData).bind _; split <;> rfl
  | _ => rfl
@[simp] theorem rAppV : eAppV gq pt gi e = (gq e).bind fun d => (gi e).bind fun x => (gApp d x).bind fun l => some (.none, pt e l) := by
  show ((gq e).bind fun d => (gi e).bind fun x => match d with
    | .list ds => if ds.length < sizeLine then some (.none, pt e (.list (ds ++ [x]))) else none
    | _ => none : Option (PyData × En)) = _
  congr 1; funext d; congr 1; funext x
  unfold gApp
  cases d with
  | list ds => show (if _ then _ else _) = (if _ then _ else _ : Option PyData).bind _; split <;> rfl
  | _ => rfl
@[simp] theorem rPop : ePop gq pt e = (gq e).bind fun d => (gPop d).bind fun p => some (p.1, pt e p.2) := by
  show ((gq e).bind fun d => match d with
    | .list ds => (ds[ds.length - 1]?).map fun x => (x, pt e (.list ds.dropLast))
    | _ => none : Option (PyData × En)) = _
  congr 1; funext d
  unfold gPop
  cases d with
  | list ds => show (ds[ds.length - 1]?).map _ = ((ds[ds.length - 1]?).bind _).bind _; cases ds[ds.length - 1]? <;> rfl
  | _ => rfl
@[simp] theorem rPopAt : ePopAt gq pt gi e = (gq e).bind fun d => (gi e).bind fun i => (gPopAt d i).bind fun p => some (p.1, pt e p.2) := by
  show ((gq e).bind fun d => (gi e).bind fun i => match d, i with
    | .list ds, .int k => if -(2 ^ 63) ≤ k ∧ k < 2 ^ 63 then (ixN ds.length k).bind fun j => (ds[j]?).map fun x => (x, pt e (.list (ds.eraseIdx j))) else none
    | _, _ => none : Option (PyData × En)) = _
  congr 1; funext d; congr 1; funext i
  unfold gPopAt
  cases d <;> cases i <;> first | rfl | skip
  rename_i ds k
  show (if _ then _ else _) = (if _ then _ else _ : Option (PyData × PyData)).bind _
  split
  · cases ixN ds.length k with
    | none => rfl
    | some j => show (ds[j]?).map _ = ((ds[j]?).bind _).bind _; cases ds[j]? <;> rfl
  · rfl
@[simp] theorem reNotT : eNotT fb e = (fb e).bind fun p => some (.bool (!p.1), p.2) := rfl
@[simp] theorem rPopG : ePopG j f e = (f e).bind fun p => (gPopAt (p.2.getD j .none) p.1).bind fun q => some (q.1, p.2.set j q.2) := rfl
@[simp] theorem rExt : eExt j f e = (f e).bind fun p => (gExt (p.2.getD j .none) p.1).bind fun l => some (.none, p.2.set j l) := rfl
@[simp] theorem rsSet : sSet gq pt gi f e = (f e).bind fun p => (gq p.2).bind fun d => (gi p.2).bind fun i => (gSet d i p.1).bind fun l => some (.nx, pt p.2 l) := by
  show ((f e).bind fun p => (gq p.2).bind fun d => (gi p.2).bind fun i => match d, i with
    | .list ds, .int k => (ixN ds.length k).map fun j => (.nx, pt p.2 (.list (ds.set j p.1)))
    | _, _ => none : Option (Out × En)) = _
  congr 1; funext p; congr 1; funext d; congr 1; funext i
  unfold gSet
  cases d <;> cases i <;> first | rfl | skip
  rename_i ds k
  show (ixN ds.length k).map _ = ((ixN ds.length k).bind _).bind _
  cases ixN ds.length k <;> rfl
@[simp] theorem reSl {gg : PyData → Option Int → Option Int → Option PyData} {l u : Of} : eSl gg a l u e = (a e).bind fun p => (l p.2).bind fun q => (u q.2).bind fun r => (gg p.1 q.1 r.1).bind fun d => some (d, r.2) := rfl
@[simp] theorem roNone : oNone e = some (none, e) := rfl
@[simp] theorem roSome : oSome f e = (f e).bind fun p => (prt p.1).bind fun i => some (i, p.2) := rfl
@[simp] theorem reLenQ : eLenQ j e = (gLenL (e.getD j .none)).bind fun d => some (d, e) := by
  show (match e.getD j .none with | .list xs => some (.int xs.length, e) | _ => none : Option (PyData × En)) = _
  cases e.getD j .none <;> rfl
@[simp] theorem reSlQ {lo hi : Option Int} : eSlQ j lo hi e = (gSlL (e.getD j .none) lo hi).bind fun d => some (d, e) := by
  show (gSlL (e.getD j .none) lo hi).map (fun d => (d, e)) = _
  cases gSlL (e.getD j .none) lo hi <;> rfl
@[simp] theorem rsNil : sNil e = some (.nx, e) := rfl
@[simp] theorem rsSeq : sSeq sf sg e = (sf e).bind fun p => seqR p sg := by
  show ((sf e).bind fun p => match p.1 with
    | .nx => sg p.2
    | o => some (o, p.2) : Option (Out × En)) = _
  congr 1
@[simp] theorem rsIf : sIf fb sf sg e = (fb e).bind fun p => if p.1 = true then sf p.2 else sg p.2 := rfl
@[simp] theorem rsRet : sRet f e = (f e).bind fun p => some (.rt p.1, p.2) := by
  show (f e).map _ = _
  cases f e <;> rfl
@[simp] theorem rsRetN : sRetN e = some (.rt .none, e) := rfl
@[simp] theorem rsBrk : sBrk e = some (.bk, e) := rfl
@[simp] theorem rsCnt : sCnt e = some (.ct, e) := rfl
@[simp] theorem rsNever : sNever e = none := rfl
@[simp] theorem rsDrop : sDrop f e = (f e).bind fun p => some (.nx, p.2) := by
  show (f e).map _ = _
  cases f e <;> rfl
@[simp] theorem rsAsg : sAsg j f e = (f e).bind fun p => some (.nx, p.2.set j p.1) := by
  show (f e).map _ = _
  cases f e <;> rfl
@[simp] theorem rsAug {gg : PyData → PyData → Option PyData} : sAug j gg f e = (f e).bind fun p => (gg (p.2.getD j .none) p.1).bind fun d => some (.nx, p.2.set j d) := by
  show ((f e).bind fun p => (gg (p.2.getD j .none) p.1).map fun d => (.nx, p.2.set j d) : Option (Out × En)) = _
  congr 1; funext p; cases gg (p.2.getD j .none) p.1 <;> rfl
@[simp] theorem rsTg : sTg f gf e = (f e).bind fun p => (gf p.1 p.2).bind fun e' => some (.nx, e') := by
  show ((f e).bind fun p => (gf p.1 p.2).map fun e' => (.nx, e') : Option (Out × En)) = _
  congr 1; funext p; cases gf p.1 p.2 <;> rfl
@[simp] theorem rsPar {i : Nat} : sPar i j fr e = (fr e).bind fun p => two p.1 fun x y => some (.nx, (p.2.set i x).set j y) := rfl
@[simp] theorem rsPar3 {i l : Nat} : sPar3 i j l fr e = (fr e).bind fun p => three p.1 fun x y z => some (.nx, ((p.2.set i x).set j y).set l z) := rfl
@[simp] theorem rsFor {it : Lf} : sFor it gf sf e = (it e).bind fun p => forL gf sf p.1 p.2 := rfl
@[simp] theorem rsWh {n : Nat} : sWh n fb sf e = whL fb sf n e := rfl
@[simp] theorem riFg {js : List Nat} {lf : Lf} : iFg js lf e = (lf e).bind fun p => some (p.1, fgE js p.2) := rfl
@[simp] theorem rsPre {js : List Nat} : sPre js sf e = sf (fgE js e) := rfl
@[simp] theorem rsPost {js jr : List Nat} : sPost js jr sf e = (sf e).bind fun p => some (p.1, outE js jr p.1 p.2) := rfl
@[simp] theorem reLc {it : Lf} {vs : List Nat} : eLc it vs gf fb f e = (it e).bind fun p => (lcL vs gf fb f p.1 p.2).bind fun q => some (.list q.1, restE p.2 q.2 vs) := rfl
@[simp] theorem rbYes : bYes e = some (true, e) := rfl
@[simp] theorem rlcB {vs : List Nat} : lcB vs gf fb f d e = (gf d e).bind fun e1 => (fb e1).bind fun p => if p.1 = true then (f p.2).bind fun q => some (some q.1, restE e q.2 vs) else some (none, restE e p.2 vs) := rfl
@[simp] theorem riSeq : iSeq f e = (f e).bind fun p => (seqD p.1).bind fun ds => some (ds, p.2) := rfl
@[simp] theorem riEn : iEn f e = (f e).bind fun p => (gEn p.1).bind fun ds => some (ds, p.2) := by
  show ((f e).bind fun p => (seqD p.1).bind fun ds => some (enumD 0 ds, p.2)) = _
  congr 1; funext p; unfold gEn; cases seqD p.1 <;> rfl
@[simp] theorem riZp : iZp f g e = (f e).bind fun p => (g p.2).bind fun q => (zipS p.1 q.1).bind fun ds => some (ds, q.2) := rfl
@[simp] theorem riR1 : iR1 f e = (f e).bind fun p => (rng1 p.1).bind fun ds => some (ds, p.2) := rfl
@[simp] theorem riR2 : iR2 f g e = (f e).bind fun p => (g p.2).bind fun q => (rng2 p.1 q.1).bind fun ds => some (ds, q.2) := rfl
@[simp] theorem rLsR {lf : Lf} : eLsR lf e = (lf e).bind fun p => some (.list p.1, p.2) := by
  show (lf e).map _ = _
  cases lf e <;> rfl
@[simp] theorem rTpR {lf : Lf} : eTpR lf e = (lf e).bind fun p => some (.tuple p.1, p.2) := by
  show (lf e).map _ = _
  cases lf e <;> rfl
@[simp] theorem rgNm : gNm j d e = some (e.set j d) := rfl
@[simp] theorem rgTp2 : gTp 2 (gsCons gf (gsCons gf2 gsNil)) d e = (un2 d).bind fun p => (gf p.1 e).bind fun e => gf2 p.2 e := by
  unfold gTp un2
  cases d with
  | tuple ds =>
    match ds with
    | [] => rfl
    | [a] => rfl
    | [a, b] =>
      show ((gf a e).bind fun e' => (gf2 b e').bind fun e'' => some e'') = _
      simp only [Option.bind_some]
      congr 1; funext e'; cases gf2 b e' <;> rfl
    | a :: b :: c :: r => show (if (a :: b :: c :: r).length = 2 then _ else _) = _; rw [if_neg (by simp)]; rfl
  | _ => rfl
@[simp] theorem rgTp3 : gTp 3 (gsCons gf (gsCons gf2 (gsCons gf3 gsNil))) d e = (un3 d).bind fun p => (gf p.1 e).bind fun e => (gf2 p.2.1 e).bind fun e => gf3 p.2.2 e := by
  unfold gTp un3
  cases d with
  | tuple ds =>
    match ds with
    | [] => rfl
    | [a] => rfl
    | [a, b] => rfl
    | [a, b, c] =>
      show ((gf a e).bind fun e' => (gf2 b e').bind fun e'' => (gf3 c e'').bind fun e''' => some e''') = _
      simp only [Option.bind_some]
      congr 1; funext e'; congr 1; funext e''; cases gf3 c e'' <;> rfl
    | a :: b :: c :: x :: r => show (if (a :: b :: c :: x :: r).length = 3 then _ else _) = _; rw [if_neg (by simp)]; rfl
  | _ => rfl
@[simp] theorem rgTp4 : gTp 4 (gsCons gf (gsCons gf2 (gsCons gf3 (gsCons gf4 gsNil)))) d e = (un4 d).bind fun p => (gf p.1 e).bind fun e => (gf2 p.2.1 e).bind fun e => (gf3 p.2.2.1 e).bind fun e => gf4 p.2.2.2 e := by
  unfold gTp un4
  cases d with
  | tuple ds =>
    match ds with
    | [] => rfl
    | [a] => rfl
    | [a, b] => rfl
    | [a, b, c] => rfl
    | [a, b, c, z] =>
      show ((gf a e).bind fun e' => (gf2 b e').bind fun e'' => (gf3 c e'').bind fun e''' => (gf4 z e''').bind fun e4 => some e4) = _
      simp only [Option.bind_some]
      congr 1; funext e'; congr 1; funext e''; congr 1; funext e3; cases gf4 z e3 <;> rfl
    | a :: b :: c :: x :: y :: r => show (if (a :: b :: c :: x :: y :: r).length = 4 then _ else _) = _; rw [if_neg (by simp)]; rfl
  | _ => rfl
@[simp] theorem rrest0 : restE e e' [] = e' := rfl
@[simp] theorem rrest1 {v : Nat} {vs : List Nat} : restE e e' (v :: vs) = restE e (e'.set v (e.getD v .none)) vs := rfl
@[simp] theorem rgd0 {x : PyData} : List.getD (x :: e) 0 d = x := rfl
@[simp] theorem rgdS {x : PyData} : List.getD (x :: e) (j + 1) d = List.getD e j d := rfl
@[simp] theorem rRun {f : Sf} {ptys : List Ty} {r : Nat} {ds : List PyData} : runF f ptys r ds = (f (ds ++ List.replicate r .none)).bind fun p => retR ptys ds p := by
  show ((f (ds ++ List.replicate r .none)).bind fun p => match p.1 with
    | .rt d => some (d, fins ptys ds p.2)
    | .nx => some (.none, fins ptys ds p.2)
    | _ => none : Option (PyData × List PyData)) = _
  congr 1
@[simp] theorem rep0 {x : PyData} : List.replicate 0 x = [] := rfl
@[simp] theorem repS {x : PyData} {n : Nat} : List.replicate (n + 1) x = x :: List.replicate n x := rfl
@[simp] theorem finS {t : Ty} {ts : List Ty} {d e : PyData} {ds es : List PyData} : fins (t :: ts) (d :: ds) (e :: es) = (if stb t = true then d else e) :: fins ts ds es := rfl
@[simp] theorem finN {ds es : List PyData} : fins [] ds es = [] := rfl
@[simp] theorem stbs : stb .s = true := rfl
@[simp] theorem stbq : stb .q = true := rfl
@[simp] theorem stbl {t : Ty} : stb (.l t) = false := rfl
@[simp] theorem stbr {t : List Ty} : stb (.r t) = false := rfl
end
end DL
namespace DL
open PySem L2 PySem.Spec
section
variable {e : En} {f g h : Ef} {j : Nat}
@[simp] theorem reDGet : eDGet j f e = (f e).bind fun p => (gDGet (p.2.getD j .none) p.1).bind fun d => some (d, p.2) := rfl
@[simp] theorem reDOp {gg : PyData → PyData → Option PyData} : eDOp gg j f e = (f e).bind fun p => (gg (p.2.getD j .none) p.1).bind fun d => some (d, p.2) := rfl
@[simp] theorem reDGet2 : eDGet2 j f h e = (f e).bind fun p => (h p.2).bind fun q => (gDGet2 (q.2.getD j .none) p.1 q.1).bind fun d => some (d, q.2) := rfl
@[simp] theorem rsDPutD : sDPutD j g f e = (f e).bind fun p => (g p.2).bind fun q => (gDPut (q.2.getD j .none) q.1 p.1).bind fun d => some (.nx, q.2.set j d) := rfl
@[simp] theorem rgItm {gi : Gq} {d : PyData} : gItm j gi d e = (gi e).bind fun i => (gSet (e.getD j .none) i d).bind fun l => some (e.set j l) := by
  show ((gi e).bind fun i => match e.getD j .none, i with
    | .list ds, .int k => (ixN ds.length k).map fun z => e.set j (.list (ds.set z d))
    | _, _ => none) = _
  congr 1; funext i
  unfold gSet
  cases e.getD j .none <;> cases i <;> first | rfl | skip
  rename_i ds k
  show (ixN ds.length k).map _ = ((ixN ds.length k).bind _).bind _
  cases ixN ds.length k <;> rfl
end
end DL
namespace DL
open PySem L2 PySem.Spec
inductive Res where
  | ok (d : PyData)
  | ex (c : Str) (fs : List (Str × PyData))
abbrev DFnX := List PyData → Option Res
def ExAt (K : PySem.W.Frag) (mg : Str → Option Value) (G : Hp) (c : Str) (fs : List (Str × PyData)) (cls : Value) (dx : Option Addr) : Prop :=
  ∃ C fv, mg c = some (.ref C) ∧ cls = .ref C ∧ (∀ x, dx = some x → G x = some (.xd fv)) ∧ (dx = none → fs = []) ∧ fv.map (·.1) = fs.map (·.1) ∧ DqA K G (fv.map (·.2)) (fs.map (·.2))
theorem ExAt.mono {K : PySem.W.Frag} {mg : Str → Option Value} {G G' : Hp} {c : Str} {fs : List (Str × PyData)} {cls : Value} {dx : Option Addr} (e : Same G G') (h : ExAt K mg G c fs cls dx) : ExAt K mg G' c fs cls dx := by
  obtain ⟨C, fv, h1, h2, h3, h4, h5, h6⟩ := h
  exact ⟨C, fv, h1, h2, fun x hx => e _ _ (h3 x hx), h4, h5, h6.mono e⟩
def spX (K : PySem.W.Frag) (mg : Str → Option Value) (ptys : List Ty) (rty : Ty) (Fn : DFnX) : Sp := fun vs H Q E =>
  ∃ (ds : List PyData) (r : Res) (G : Hp), Fn ds = some r ∧ OwnA K G H ptys ds (vs.map some) [] ∧ Same G H ∧ match r with
    | .ok d => ∀ (G' H' : Hp) (v : V) (Av : List Addr), Step [] G H Av G' H' → Own K G' H' rty d (some v) Av → Av.Nodup → Same G' H' → Q v H'
    | .ex c fs => ∀ (G' H' : Hp) (cls : Value) (dx : Option Addr), Step [] G H [] G' H' → ExAt K mg G' c fs cls dx → Same G' H' → E cls dx H'
structure FnX (P : Program) (w : World) (K : PySem.W.Frag) (mg : Str → Option Value) (base : Heap) (k : Nat) (f : Addr) (fd : FuncData) (ps : List Str) (sp : Sp) : Prop where
  len : ∀ vs H Q E, sp vs H Q E → vs.length = ps.length
  run : ∀ (A : Around) (outer : List Env) (s : Shared) (H : Hp) (args : Args) (us : List Value) (vs : List V) (Q : VK) (E : XK), Room k A → A.guards = some [] → Env0 P w K mg base A outer s H → BindsTo s fd args (ps.zip us) → Vals vs us → sp vs H Q E →
    codeAny (model P w) A (.call (.ref f) args) (CR (L2N.CX P w) outer P w H s Q E) s
structure CalX (P : Program) (w : World) (K : PySem.W.Frag) (mg : Str → Option Value) (base : Heap) (k : Nat) (x : Str) (ptys : List Ty) (rty : Ty) (Fn : DFnX) : Prop where
  ex : ∃ (f : Addr) (fd : FuncData) (ps : List Str), FnX P w K mg base k f fd ps (spX K mg ptys rty Fn) ∧ mg x = some (.ref f) ∧ PySem.W.keepIn K (.ref f) = true ∧ Binds K fd ps []
abbrev EfX := En → Option (Res × En)
def DEX (K : PySem.W.Frag) (mg : Str → Option Value) (m : List Ty) (te : TE) (ty : Ty) (f : EfX) (m' : List Ty) (W : WX) : Prop :=
  ∀ {G H : Hp} {σ : St} {e : En} {A : List Addr} {r : Res} {e' : En} {Q : VK}, Stt K m G H σ e A → f e = some (r, e') →
    (match r with
    | .ok d => ∀ (G' H' : Hp) (v : V) (Av A' : List Addr), Step A G H (Av ++ A') G' H' → Stt K m' G' H' σ e' A' → Own K G' H' ty d (some v) Av → (Av ++ A').Nodup → Q v H'
    | .ex c fs => ∀ (G' H' : Hp) (A' : List Addr) (cls : Value) (dx : Option Addr), Step A G H A' G' H' → Stt K m' G' H' σ e' A' → ExAt K mg G' c fs cls dx → W cls dx σ H') → te σ H Q
structure PDX {ι : Type} (Xf : ι → Cx) (W : WX) (K : PySem.W.Frag) (mg : Str → Option Value) (m : List Ty) (e : Expr) (ty : Ty) (f : EfX) (m' : List Ty) : Prop where
  ex : ∃ te : TE, (∀ i, PE (Xf i) e te) ∧ DEX K mg m te ty f m' W
class FamT {ι : Type} (Xf : ι → Cx) (W : outParam WX) : Prop where
  tk : ∀ i, L2N.Takes (Xf i) W
def xCall (Fn : DFnX) (r : Lf) : EfX := fun e => (r e).bind fun p => (Fn p.1).bind fun q => some (q, p.2)
section
variable {ι : Type} {Xf : ι → Cx} {W : WX} {P : Program} {w : World} {K : PySem.W.Frag} {mg : Str → Option Value} {base : Heap} {n : Nat} [F : Fam Xf P w K mg base n] [FG : FamG Xf]
variable {m m1 m2 m3 : List Ty} {pos p p2 : Pos} {a b c : Expr} {es : List Expr} {f g h : Ef} {gx : EfX} {fr : Lf} {ty : Ty} {tys : List Ty} {L : List (Option Nat)}
theorem stab_nil {K : PySem.W.Frag} {G H : Hp} : ∀ {ts : List Ty} {ds : List PyData} {vs : List (Option V)} {A : List Addr}, OwnA K G H ts ds vs A → (∀ t ∈ ts, stb t = true) → A = []
  | [], _, _, _, o, _ => by cases o; rfl
  | t :: ts, _, _, _, o, h => by
    cases o with
    | cons h1 h2 => rw [own_stb h1 (h t (List.mem_cons_self ..)), stab_nil h2 fun x hx => h x (List.mem_cons_of_mem _ hx)]; rfl
end
inductive OutX where
  | o (x : Out)
  | ex (c : Str) (fs : List (Str × PyData))
abbrev SfX := En → Option (OutX × En)
def FinX (K : PySem.W.Frag) (mg : Str → Option Value) (M : Mk) (mx : List Ty) (W : WX) (mn : List Ty) (A : List Addr) (G H : Hp) (σ : St) (D : Ends) (e' : En) : OutX → Prop
  | .o x => Fin K M mn A G H σ D e' x
  | .ex c fs => ∀ (G' H' : Hp) (σ' : St) (A' : List Addr) (cls : Value) (dx : Option Addr), Step A G H A' G' H' → Stt K mx G' H' σ' e' A' → Pin M.po σ σ' → ExAt K mg G' c fs cls dx → W cls dx σ' H'
def DSX (K : PySem.W.Frag) (mg : Str → Option Value) (M : Mk) (mx : List Ty) (W : WX) (m : List Ty) (t : TS) (f : SfX) (mn : List Ty) : Prop :=
  ∀ {G H : Hp} {σ : St} {e : En} {A : List Addr} {o : OutX} {e' : En} {D : Ends}, Stt K m G H σ e A → f e = some (o, e') → FinX K mg M mx W mn A G H σ D e' o → t D σ H
structure PSX {ι : Type} (Xf : ι → Cx) (W : WX) (K : PySem.W.Frag) (mg : Str → Option Value) (M : Mk) (mx : List Ty) (m : List Ty) (st : Stmt) (f : SfX) (mn : List Ty) : Prop where
  ex : ∃ t : TS, (∀ i, PS (Xf i) st t) ∧ DSX K mg M mx W m t f mn
structure PSXs {ι : Type} (Xf : ι → Cx) (W : WX) (K : PySem.W.Frag) (mg : Str → Option Value) (M : Mk) (mx : List Ty) (m : List Ty) (st : List Stmt) (f : SfX) (mn : List Ty) : Prop where
  ex : ∃ t : TS, (∀ i, PSs (Xf i) st t) ∧ DSX K mg M mx W m t f mn
def xO (f : Sf) : SfX := fun e => (f e).map fun p => (.o p.1, p.2)
def xSeqX (f g : SfX) : SfX := fun e => (f e).bind fun p => match p.1 with
  | .o .nx => g p.2
  | o => some (o, p.2)
def xIfX (c : Bf) (f g : SfX) : SfX := fun e => (c e).bind fun p => if p.1 = true then f p.2 else g p.2
def xAsgX (j : Nat) (f : EfX) : SfX := fun e => (f e).map fun p => match p.1 with
  | .ok d => (.o .nx, p.2.set j d)
  | .ex c fs => (.ex c fs, p.2)
def xDropX (f : EfX) : SfX := fun e => (f e).map fun p => match p.1 with
  | .ok _ => (.o .nx, p.2)
  | .ex c fs => (.ex c fs, p.2)
def xRetX (f : EfX) : SfX := fun e => (f e).map fun p => match p.1 with
  | .ok d => (.o (.rt d), p.2)
  | .ex c fs => (.ex c fs, p.2)
section
variable {K : PySem.W.Frag} {mg : Str → Option Value} {M : Mk} {G H G1 H1 : Hp} {m m1 m2 mn mx : List Ty} {W : WX} {σ σ1 : St} {e : En} {A A1 : List Addr} {D : Ends} {e' : En} {t u : TS} {ef : Ef} {bf : Bf} {lf : Lf}
theorem FinX.back {o : OutX} (s : Step A G H A1 G1 H1) (p : Pin M.po σ σ1) (h : FinX K mg M mx W mn A G H σ D e' o) : FinX K mg M mx W mn A1 G1 H1 σ1 D e' o := by
  cases o with
  | o x => exact Fin.back s p h
  | ex c fs => exact fun G' H' σ' A' cls dx s' st' p' ex => h G' H' σ' A' cls dx (s.seq0 s') st' (p.trans p') ex
theorem DSX.of {f : Sf} (h : DS K M m t f mn) : DSX K mg M mx W m t (xO f) mn := by
  intro G H σ e A o e' D st hf k
  obtain ⟨⟨x, e1⟩, hf1, hf⟩ := Option.map_eq_some_iff.mp hf
  cases hf
  exact h st hf1 k
theorem DSX.seq {f g : SfX} (h1 : DSX K mg M mx W m t f m1) (h2 : DSX K mg M mx W m1 u g mn) : DSX K mg M mx W m (tSeq t u) (xSeqX f g) mn := by
  intro G H σ e A o e' D st hf k
  obtain ⟨⟨o1, e1⟩, hf1, hf⟩ := oBs hf
  refine h1 st hf1 ?_
  match o1, hf with
  | .o .nx, hf => exact fun G' H' σ' A' s' st' p' => h2 st' hf (k.back s' p')
  | .o .bk, hf => cases hf; exact k
  | .o .ct, hf => cases hf; exact k
  | .o (.rt d), hf => cases hf; exact k
  | .ex c fs, hf => cases hf; exact k
theorem DSX.ite {f g : SfX} {tc : TT} (hc : DT K m tc bf m1) (h1 : DSX K mg M mx W m1 t f mn) (h2 : DSX K mg M mx W m1 u g mn) : DSX K mg M mx W m (tIfS tc t u) (xIfX bf f g) mn := by
  intro G H σ e A o e' D st hf k
  obtain ⟨⟨b, e1⟩, hf1, hf⟩ := oBs hf
  refine hc st hf1 fun G1 H1 A1 s1 st1 => ?_
  cases b with
  | true => exact h1 st1 hf (k.back s1 Pin.refl)
  | false => exact h2 st1 hf (k.back s1 Pin.refl)
theorem DSX.le {f : SfX} (h : DSX K mg M mx W m t f m1) (l : LeM m1 mn) : DSX K mg M mx W m t f mn := by
  intro G H σ e A o e' D st hf k
  refine h st hf ?_
  match o, k with
  | .o .nx, k =>
    intro G' H' σ' A' s' st' p'
    obtain ⟨G2, A2, s2, st2⟩ := stt_le l st'
    exact k G2 H' σ' A2 (s'.seq0 s2) st2 p'
  | .o .bk, k => exact k
  | .o .ct, k => exact k
  | .o (.rt d), k => exact k
  | .ex c fs, k => exact k
theorem DSX.asg {te : TE} {ty : Ty} {j : Nat} {fx : EfX} (he : DEX K mg m te ty fx m1 W) (hj : j < m1.length) (hp : j ∉ M.po) : DSX K mg M m1 W m (tAsg te (gName j)) (xAsgX j fx) (m1.set j ty) := by
  intro G H σ e A o e' D st hf k
  obtain ⟨⟨r, e1⟩, hf1, hf⟩ := Option.map_eq_some_iff.mp hf
  refine he st hf1 ?_
  match r, hf with
  | .ok d, hf =>
    cases hf
    exact fun G1 H1 v Av A1 s1 st1 o1 nd1 => by
      obtain ⟨A2, st2, hA⟩ := stt_set st1 hj o1 nd1
      exact k G1 H1 _ A2 (s1.less hA) st2 (Pin.set hp)
  | .ex c fs, hf =>
    cases hf
    exact fun G1 H1 A1 cls dx s1 st1 ex => k G1 H1 σ A1 cls dx s1 st1 Pin.refl ex
theorem DSX.drop {te : TE} {ty : Ty} {fx : EfX} (he : DEX K mg m te ty fx m1 W) : DSX K mg M m1 W m (tDrop te) (xDropX fx) m1 := by
  intro G H σ e A o e' D st hf k
  obtain ⟨⟨r, e1⟩, hf1, hf⟩ := Option.map_eq_some_iff.mp hf
  refine he st hf1 ?_
  match r, hf with
  | .ok d, hf =>
    cases hf
    exact fun G1 H1 v Av A1 s1 st1 o1 nd1 => k G1 H1 σ A1 (s1.less fun a h => List.mem_append_right _ h) st1 Pin.refl
  | .ex c fs, hf =>
    cases hf
    exact fun G1 H1 A1 cls dx s1 st1 ex => k G1 H1 σ A1 cls dx s1 st1 Pin.refl ex
theorem DSX.ret {te : TE} {fx : EfX} (he : DEX K mg m te M.ty fx m1 W) (l : LeM m1 M.r) (lx : LeM m1 mx) : DSX K mg M mx W m (tRet te) (xRetX fx) mn := by
  intro G H σ e A o e' D st hf k
  obtain ⟨⟨r, e1⟩, hf1, hf⟩ := Option.map_eq_some_iff.mp hf
  refine he st hf1 ?_
  match r, hf with
  | .ok d, hf =>
    cases hf
    exact fun G1 H1 v Av A1 s1 st1 o1 nd1 => by
      obtain ⟨G2, A2, s2, st2, o2, nd2⟩ := le_aside l s1 st1 o1 nd1
      exact k G2 H1 σ v Av A2 s2 st2 o2 nd2 Pin.refl
  | .ex c fs, hf =>
    cases hf
    exact fun G1 H1 A1 cls dx s1 st1 ex => by
      obtain ⟨G2, A2, s2, st2⟩ := stt_le lx st1
      exact k G2 H1 σ A2 cls dx (s1.seq0 s2) st2 Pin.refl (ex.mono s2.sg)
end
section
variable {ι : Type} {Xf : ι → Cx} {W : WX} {P : Program} {w : World} {K : PySem.W.Frag} {mg : Str → Option Value} {base : Heap} {n : Nat} [F : Fam Xf P w K mg base n]
variable {M : Mk} {m m1 m2 mn mx : List Ty} {pos p p2 spos : Pos} {c v : Expr} {st : Stmt} {rest body orelse : List Stmt} {f g : SfX} {sf : Sf} {bf : Bf} {ef : Ef} {fx : EfX} {ty : Ty}
end
abbrev newAt (h : Heap) : Addr := h.objs.size + 1
abbrev grownBy (h : Heap) (us : List Value) (C : Addr) : Heap := (h.push (PySem.W.kdv_tup us)).push (PySem.HandSPX.excO C h.objs.size)
section
variable {X : Cx} {o e : Expr} {es : List Expr} {to te : TE} {ta : TA} {f : Str} {p p' pos : Pos}
theorem mk_endN {pins : List (Addr × Obj)} {σ : St} {H1 H2 : Hp} {Q : XK} {hp hp2 h2 : Heap} {g1 g2 : Array GenState} {d1 d2 : Drawn} {t1 t2 : Nat} {o1 o2 : OsState} {a C d : Addr} {fl : List (Str × V)} (T : Raises X (.ref C)) (I1 : L2.Inv X pins σ H1 ⟨hp, g1, d1, t1, o1⟩)
    (ha : hp.objs.size ≤ a) (kp : ∀ b u, hp.get? b = some u → hp2.get? b = some u) (un : Un (frs X.stack) [] (upd H1 a (exo a C none)) H2 hp2 h2) (hok : HOk X.prog X.w H2 h2) (ho : o2 = o1) (hb : PyProof.Rows.AllBare g2)
    (ea : H2 a = some (exo a C (some d))) (ed : H2 d = some (exd d fl)) (dn : H1 d = none) (q : Q (.ref C) (some d) (upd (del H2 a) d (.xd fl))) : L2N.MkP X pins σ Q (.ref a) ⟨h2, g2, d2, t2, o2⟩ := by
  obtain ⟨t0, G1, J, kG, ge, hoe, na⟩ := mk_end0 (d2 := d2) (t2 := t2) I1 ha kp un hok ho hb ea ed dn
  refine ⟨a, _, _, ⟨G1, g2, d2, t2, o2⟩, _, .ref C, some d, rfl, J, kG, ge, hoe, ⟨rfl, rfl, fun vs hv => ?_⟩, rfl, rfl, na, rfl, hb, T, q⟩
  cases hv
  rfl
variable {pins : List (Addr × Obj)} {σ : St} {H : Hp} {s : Shared}
theorem pmk_oexN {CX : CXT} {x : Str} {C fI : Addr} {k : Nat} {fd : FuncData} {ps : List Str} {sp : Sp} (T : OexC X.K C) (iC : PySem.W.findIn X.K (.ref C) "__init__" = some (some (.ref fI))) (tI : PySem.W.typeIn X.K (.ref fI) = some (.type "function"))
    (FI : FnOk X.prog X.w X.K X.mg X.base CX k fI fd ps sp) (room : Room (k + 1) X.A) (bd : Binds X.K fd ps []) (nx : Passes CX X (fun _ _ _ => False)) (hg : Gl X x) (hm : X.mg x = some (.ref C)) (ha : PA X (e :: es) ta)
    (hdb : (x == ("__debug__" : Str)) = false := by decide) (he : starEach (e :: es) X.env = (false, eval e X.env) :: starEach es X.env := by rfl) (hpl : (backTo pos (starEach es X.env)).any (·.1) = false := by rfl) :
    L2N.PMk X (.Call (.Name x p) (e :: es) [] pos) (tMkO C sp [] ta) := by
  intro pins s σ H Q I h
  obtain ⟨nm, q, N, bs, bm, sn, sub, ab, col, dd, k0, k1, k2, k3, k5, hC, hbm⟩ := T.cls
  refine wpAny_Call_Name_kw (ld_glob I hg hm ?_ hdb)
  refine PySem.W.callWith_K (h₀ := X.base) I.ok.mod.kin T.kC (thn (ha.run pos pins s σ H _ I h) fun us s1 hu => ?_) he hpl
  obtain ⟨vs, H1, I1, r1, hz, wish⟩ := hu
  refine ⟨I1.kIn, ?_⟩
  show wpAny _ _ (call (.ref C) us) _ _ _
  obtain ⟨hh, gg, dr, tk, oo⟩ := s1
  have up1 : hh.objs.size ≤ newAt hh := Nat.le_succ _
  have w2 := wish (newAt hh) (I1.hok.fresh up1)
  have keep : ∀ b o, hh.get? b = some o → (grownBy hh us C).get? b = some o := fun b o z => Heap.get?_push_of_some _ (Heap.get?_push_of_some _ z)
  have at2 : (grownBy hh us C).get? (newAt hh) = some (PySem.HandSPX.excO C hh.objs.size) := by
    show ((hh.push (PySem.W.kdv_tup us)).push (PySem.HandSPX.excO C hh.objs.size)).get? (hh.objs.size + 1) = _
    heap_get
  have I2 : L2.Inv X pins σ (upd H1 (newAt hh) (exo (newAt hh) C none)) ⟨grownBy hh us C, gg, dr, tk, oo⟩ := I1.laid (t' := tk) keep up1 (exo_ok at2)
  have r2 : Vals (V.ref (newAt hh) :: (vs ++ [])) (Value.ref (newAt hh) :: (us ++ [])) := .cons rfl (r1.append .nil)
  have len2 : (Value.ref (newAt hh) :: us ++ []).length = ps.length := r2.length.symm.trans (FI.len _ _ _ _ w2)
  have small : us.length ≤ sizeLine := by rw [← Paired.length r1, sizeLine_eq]; omega
  refine wpAny_call (PySem.HandSPX.call_own PySem.F.excBase_ValueError (fun Y => PySem.HandSPX.refsVE_contains Y bm hbm) (I1.kIn _ _ hC) (PySem.W.looks_findIn I1.kIn iC) (fun self => PySem.W.bind_fn I1.kIn self tI) small ?_)
  refine codeAny_mono (FI.run _ X.stack _ _ ⟨Value.ref (newAt hh) :: us, []⟩ (Value.ref (newAt hh) :: (us ++ [])) _ _ (fun _ _ _ => False) (room.make C us []) (I2.env0.make C us []) (by have b2 := bd ⟨grownBy hh us C, gg, dr, tk, oo⟩ (Value.ref (newAt hh) :: us) I2.kIn len2; rw [List.cons_append] at b2; exact b2) r2 w2) fun r s' z => ?_
  match r, z with
  | .error er, z => exact nx pins σ _ _ er s' I2 z
  | .ok .next, z => exact z.elim
  | .ok .brk, z => exact z.elim
  | .ok .cont, z => exact z.elim
  | .ok (.ret u), z =>
    obtain ⟨v, H2, o2, bare, un, hok, rv, ev, d, fs, ea, ed, hd1, q2⟩ := z
    subst ev
    obtain ⟨h2, g2, d2, t2, os'⟩ := s'
    exact ⟨rv, mk_endN (raises_own T.exC T.tyC) I1 up1 keep un hok o2 bare ea ed hd1 q2⟩
end
def spIn (C : Addr) (flds : List Str) : Sp := fun vs H Q _ => ∃ (a : Addr) (ys : List V), vs = .ref a :: ys ∧ ys.length = flds.length ∧ H a = some (exo a C none) ∧
  ∀ (dx : Addr) (H' : Hp), H dx = none → dx ≠ a → H' a = some (exo a C (some dx)) → H' dx = some (exd dx (flds.zip ys).reverse) → (∀ b, b ≠ a → b ≠ dx → H' b = H b) → Q .non H'
structure ExcT (P : Program) (w : World) (K : PySem.W.Frag) (mg : Str → Option Value) (base : Heap) (k : Nat) (x : Str) (flds : List Str) : Prop where
  ex : ∃ (C fI : Addr) (fd : FuncData) (ps : List Str), OexC K C ∧ mg x = some (.ref C) ∧ PySem.W.findIn K (.ref C) "__init__" = some (some (.ref fI)) ∧ PySem.W.typeIn K (.ref fI) = some (.type "function") ∧ FnOk P w K mg base CX0 k fI fd ps (spIn C flds) ∧ Binds K fd ps []
theorem init1 {P : Program} {w : World} {K : PySem.W.Frag} {mg : Str → Option Value} {base : Heap} {C fI : Addr} {fd : FuncData} {qual f y : Str} {st : Stmt} {p1 p2 p3 p4 : Pos} (F : L2.Fun K "__init__" qual st fI fd) (S : FnScope ["self", y] ["self", y] (defScope st)) (hb : defBody st = [.Assign [.Attribute (.Name "self" p1) f p2] (.Name y p3) p4])
    (T : OexC K C) (hno : PySem.W.findIn K (.ref C) f = some none)
    (hv1 : Vis (defScope st) "self") (hv2 : Vis (defScope st) y) (hdy : (y == ("__debug__" : Str)) = false := by decide) (hcy : (y == ("__classdict__" : Str)) = false := by decide)
    (hs : ∀ env, swapsWith (.Name y p3) (some (.Attribute (.Name "self" p1) f p2)) p4.line env = pure false := by intro _; rfl) : FnOk P w K mg base CX0 1 fI fd ["self", y] (spIn C [f]) := by
  refine F.ok S (fun vs H Q E h => ?_) fun cdv A outer s H vs Q E hr h => ⟨tOst K f (tVar 0) (tVar 1), ?_, ?_⟩
  · obtain ⟨a, ys, rfl, hl, _⟩ := h
    simp [hl]
  · rw [hb]
    exact pss_one (ps_ost (pe_var rfl hv1) (pe_var rfl hv2 hdy hcy) (hs _))
  · obtain ⟨a, ys, rfl, hl, he, k⟩ := h
    match ys, hl with
    | [y1], _ =>
      refine ⟨y1, rfl, .ref a, rfl, a, C, rfl, T, hno, .inl ⟨he, fun dx hd ne => ?_⟩⟩
      exact k dx _ hd ne upd_same (by rw [upd_ne ne, upd_same]; rfl) fun b h1 h2 => by rw [upd_ne h1, upd_ne h2]
theorem zip_fst {α : Type} : ∀ {l : List Str} {r : List α}, l.length = r.length → (l.zip r).map (·.1) = l
  | [], [], _ => rfl
  | _ :: l, _ :: r, h => by simp [zip_fst (l := l) (r := r) (by simpa using h)]
section
variable {ι : Type} {Xf : ι → Cx} {W : WX} {P : Program} {w : World} {K : PySem.W.Frag} {mg : Str → Option Value} {base : Heap} {n : Nat} [F : Fam Xf P w K mg base n]
variable {M : Mk} {m m1 m2 mn mx : List Ty} {pos p p2 spos : Pos} {a : Expr} {es : List Expr} {fr : Lf} {tys : List Ty} {L : List (Option Nat)}
end
end DL
namespace DL
open PySem L2 PySem.Spec
structure TI {ι : Type} (Xf : ι → Cx) (W : WX) where
  i : ι
  pn : List (Addr × Obj)
  xe : Value → Shared → Prop
  tk : L2N.Takes ((Xf i).tr pn xe) W
  ps : PassesOwn (model (Xf i).prog (Xf i).w) (Xf i).A (Xf i).env xe
def tryF {ι : Type} (Xf : ι → Cx) (W : WX) : TI Xf W → Cx := fun b => (Xf b.i).tr b.pn b.xe
section
variable {ι : Type} {Xf : ι → Cx} {P : Program} {w : World} {K : PySem.W.Frag} {mg : Str → Option Value} {base : Heap} {n : Nat} {W : WX}
instance [F : Fam Xf P w K mg base n] : Fam (tryF Xf W) P w K mg base n :=
  ⟨fun b => F.prog b.i, fun b => F.w_ b.i, fun b => F.kk b.i, fun b => F.mg_ b.i, fun b => F.base_ b.i, fun b => F.room b.i, fun b => F.nd b.i⟩
instance [F : FamG Xf] : FamG (tryF Xf W) := ⟨fun b => F.gd b.i, fun b => F.calm b.i, fun b => F.hd b.i⟩
instance : FamN (tryF Xf W) := ⟨fun b => b.ps⟩
instance : FamT (tryF Xf W) W := ⟨fun b => b.tk⟩
end
structure SI {ι : Type} (Xf : ι → Cx) (cls : Value) (d : Option Addr) where
  i : ι
  oe : Obj
  pn : List (Addr × Obj)
  hz : L2N.Zn cls d oe
  hf : ∃ vs, oe.data = .fields vs
def suF {ι : Type} (Xf : ι → Cx) (a : Addr) (cls : Value) (d : Option Addr) : SI Xf cls d → Cx := fun b => (Xf b.i).suite a ((a, b.oe) :: b.pn)
section
variable {ι : Type} {Xf : ι → Cx} {P : Program} {w : World} {K : PySem.W.Frag} {mg : Str → Option Value} {base : Heap} {n : Nat} {a : Addr} {cls : Value} {d : Option Addr}
instance [F : Fam Xf P w K mg base n] : Fam (suF Xf a cls d) P w K mg base n :=
  ⟨fun b => F.prog b.i, fun b => F.w_ b.i, fun b => F.kk b.i, fun b => F.mg_ b.i, fun b => F.base_ b.i, fun b => ⟨(F.room b.i).dp, (F.room b.i).un⟩, fun b => F.nd b.i⟩
instance [F : FamG Xf] : FamD (suF Xf a cls d) := ⟨fun b => F.gd b.i⟩
end
abbrev CT := List (Str × List Str)
section
variable {K : PySem.W.Frag} {G H : Hp}
end
section
variable {ι : Type} {Xf : ι → Cx} {P : Program} {w : World} {K : PySem.W.Frag} {mg : Str → Option Value} {base : Heap} {n : Nat} [F : Fam Xf P w K mg base n]
variable {M : Mk} {m mn mx : List Ty} {pos pos' np : Pos} {x nm : Str} {cx : Value} {body suite : List Stmt} {b₀ : Stmt} {fb : SfX} {fs : Sf}
end
end DL
namespace DL
open PySem L2 PySem.Spec
def gOk (d : PyData) : Option PyData := some (.list [d])
def gUn : PyData → Option PyData
  | .list [d] => some d
  | _ => none
def gRz (c : Str) : PyData → Option PyData
  | .tuple vs => some (.tuple (.str c :: vs.reverse))
  | _ => none
def decR (tb : CT) : PyData → Option Res
  | .list [d] => some (.ok d)
  | .tuple (.str c :: vs) => (tb.lookup c).bind fun l => if l.length = vs.length then some (.ex c (l.zip vs)) else none
  | _ => none
def gIsOk (tb : CT) : PyData → Option PyData
  | .list [_] => some (.bool true)
  | .tuple (.str c :: vs) => (tb.lookup c).bind fun l => if l.length = vs.length then some (.bool false) else none
  | _ => none
def gIsE (rt : List (Str × Bool)) : PyData → Option PyData
  | .tuple (.str c :: _) => (rt.lookup c).bind fun b => some (.bool b)
  | _ => none
def decX (tb : CT) (f : Sf) : SfX := fun e => (f e).bind fun p => match p.1 with
  | .rt v => (decR tb v).bind fun r => match r with
    | .ok d => some (.o (.rt d), p.2)
    | .ex c fs => some (.ex c fs, p.2)
  | .nx => some (.o .nx, p.2)
  | .bk => some (.o .bk, p.2)
  | .ct => some (.o .ct, p.2)
section
variable {ι : Type} {Xf : ι → Cx} {W : WX} {P : Program} {w : World} {K : PySem.W.Frag} {mg : Str → Option Value} {base : Heap} {n : Nat} [F : Fam Xf P w K mg base n]
variable {M : Mk} {m m1 m2 mn mx : List Ty} {pos p p2 spos : Pos} {c v a : Expr} {es : List Expr} {st : Stmt} {rest body orelse : List Stmt} {f g : Sf} {fx gx : SfX} {bf : Bf} {ef : Ef} {fr : Lf} {tys : List Ty} {L : List (Option Nat)} {tb : CT} {rty ty : Ty}
end
theorem FnX.imp {P : Program} {w : World} {K : PySem.W.Frag} {mg : Str → Option Value} {base : Heap} {k : Nat} {f : Addr} {fd : FuncData} {ps : List Str} {sp sp' : Sp} (h : FnX P w K mg base k f fd ps sp') (i : ∀ vs H Q E, sp vs H Q E → sp' vs H Q E) : FnX P w K mg base k f fd ps sp :=
  ⟨fun vs H Q E z => h.len vs H Q E (i _ _ _ _ z), fun A outer s H args us vs Q E r g e0 b rel z => h.run A outer s H args us vs Q E r g e0 b rel (i _ _ _ _ z)⟩
section
variable {ι : Type} {Xf : ι → Cx} {W : WX} {P : Program} {w : World} {K : PySem.W.Frag} {mg : Str → Option Value} {base : Heap} {n : Nat} [F : Fam Xf P w K mg base n] [FG : FamG Xf]
variable {m m1 m2 m3 : List Ty} {pos p p2 : Pos} {a b c : Expr} {es : List Expr} {f g h : Ef} {fr : Lf} {ty : Ty} {tys : List Ty} {L : List (Option Nat)} {tb : CT}
end
end DL
namespace DL
open PySem L2 PySem.Spec
section
variable {ι : Type} {Xf : ι → Cx} {K : PySem.W.Frag} {M : Mk} {m mn : List Ty} {st : Stmt} {f g : Sf}
end
section
variable {ι : Type} {Xf : ι → Cx} {P : Program} {w : World} {K : PySem.W.Frag} {mg : Str → Option Value} {base : Heap} {n : Nat} [F : Fam Xf P w K mg base n] [FG : FamG Xf]
variable {M : Mk} {m m1 mn mx : List Ty} {pos pos' np p2 p3 cp : Pos} {x nm g y : Str} {cx : Value} {suite : List Stmt} {b₀ : Stmt} {fs : Sf} {Fn : DFn} {fr : Lf} {tys : List Ty} {L : List (Option Nat)} {rty : Ty} {a : Expr} {es : List Expr} {k : Nat}
def Suit {ι : Type} (Xf : ι → Cx) (K : PySem.W.Frag) (mg : Str → Option Value) (M : Mk) (tb : CT) (mx : List Ty) (j : Nat) (suite : List Stmt) (fs : Sf) (mn : List Ty) : Prop :=
  ∀ (a : Addr) (cls : Value) (d : Option Addr) (fl : List (Str × V)) (c : Str), tb.lookup c = some (fl.map (·.1)) → mg c = some cls → (d = none → fl = []) → PSsd (suF Xf a cls d) K M (mx.set j (.e a d fl c)) suite fs mn
end
end DL
namespace DL
open PySem L2 PySem.Spec
theorem any_some' {K : PySem.W.Frag} {D : Addr} (h : PySem.W.hasDictIn K D = true) : (PySem.W.clsIn K D).isSome = true := by
  obtain ⟨cd, hc, _⟩ := PySem.W.any_some h
  rw [hc]; rfl
section
variable {ι : Type} {Xf : ι → Cx} {P : Program} {w : World} {K : PySem.W.Frag} {mg : Str → Option Value} {base : Heap} {n : Nat} [F : Fam Xf P w K mg base n]
variable {m : List Ty} {pos p p1 p2 p3 : Pos} {x nm c : Str} {a : Addr} {cls : Value} {d : Option Addr} {fl : List (Str × V)} {tb : CT} {rt : List (Str × Bool)} {cv : Value} {v : V} {l : List Str}
inductive ClsE : (X : Cx) → List Expr → List V → Prop
  | nil (X : Cx) : ClsE X [] []
  | cons {X : Cx} {x : Str} {q : Pos} {es : List Expr} {v : V} {vs : List V} : PE X (.Name x q) (tC v) → (starEach (.Name x q :: es) X.env = (false, eval (.Name x q) X.env) :: starEach es X.env) → ClsE X es vs → ClsE X (.Name x q :: es) (v :: vs)
end
theorem init2 {P : Program} {w : World} {K : PySem.W.Frag} {mg : Str → Option Value} {base : Heap} {C fI : Addr} {fd : FuncData} {qual f y f2 y2 : Str} {st : Stmt} {p1 p2 p3 p4 q1 q2 q3 q4 : Pos} (F : L2.Fun K "__init__" qual st fI fd) (S : FnScope ["self", y, y2] ["self", y, y2] (defScope st)) (hb : defBody st = [.Assign [.Attribute (.Name "self" p1) f p2] (.Name y p3) p4, .Assign [.Attribute (.Name "self" q1) f2 q2] (.Name y2 q3) q4])
    (T : OexC K C) (hno : PySem.W.findIn K (.ref C) f = some none) (hno2 : PySem.W.findIn K (.ref C) f2 = some none)
    (hv1 : Vis (defScope st) "self") (hv2 : Vis (defScope st) y) (hv3 : Vis (defScope st) y2) (hdy : (y == ("__debug__" : Str)) = false := by decide) (hcy : (y == ("__classdict__" : Str)) = false := by decide) (hdy2 : (y2 == ("__debug__" : Str)) = false := by decide) (hcy2 : (y2 == ("__classdict__" : Str)) = false := by decide)
    (hs : ∀ env, swapsWith (.Name y p3) (some (.Attribute (.Name "self" p1) f p2)) p4.line env = pure false := by intro _; rfl) (hs2 : ∀ env, swapsWith (.Name y2 q3) (some (.Attribute (.Name "self" q1) f2 q2)) q4.line env = pure false := by intro _; rfl) : FnOk P w K mg base CX0 1 fI fd ["self", y, y2] (spIn C [f, f2]) := by
  refine F.ok S (fun vs H Q E h => ?_) fun cdv A outer s H vs Q E hr h => ⟨tSeq (tOst K f (tVar 0) (tVar 1)) (tOst K f2 (tVar 0) (tVar 2)), ?_, ?_⟩
  · obtain ⟨a, ys, rfl, hl, _⟩ := h
    simp [hl]
  · rw [hb]
    exact pss_cons (ps_ost (pe_var rfl hv1) (pe_var rfl hv2 hdy hcy) (hs _)) (pss_one (ps_ost (pe_var rfl hv1) (pe_var rfl hv3 hdy2 hcy2) (hs2 _)))
  · obtain ⟨a, ys, rfl, hl, he, k⟩ := h
    match ys, hl with
    | [z1, z2], _ =>
      refine ⟨z1, rfl, .ref a, rfl, a, C, rfl, T, hno, .inl ⟨he, fun dx hd ne => ?_⟩⟩
      refine ⟨z2, rfl, .ref a, rfl, a, C, rfl, T, hno2, .inr ⟨dx, [(f, z1)], upd_same, by rw [upd_ne ne, upd_same], by simp, ?_⟩⟩
      exact k dx _ hd ne (by rw [upd_ne (fun z => ne z.symm), upd_same]) (by rw [upd_same]; rfl) fun b h1 h2 => by rw [upd_ne h2, upd_ne h1, upd_ne h2]
end DL
namespace DL
open PySem L2 PySem.Spec
def clsAt (s : Stmt) (k : Nat) : Stmt := match s with
  | .ClassDef (body := b) .. => b.getD k (.Pass ⟨0, 0, 0, 0⟩)
  | s => s
section
variable {K : PySem.W.Frag} {C CL N : Addr} {nm q : Str} {bs : List Value} {sn : List Str} {sub : List Value} {ab : Bool} {col : Option Bool} {dd : Option Addr} {m0 m1 m2 m3 m5 : Option Value}
end
end DL
namespace DL
open PySem L2 PySem.Spec
def gHd2 : PyData → Option (PyData × PyData)
  | .list [d0, d1, _] => some (d0, d1)
  | _ => none
def sUnal (i j0 j1 : Nat) : Sf := fun e => (gHd2 (e.getD i .none)).bind fun q => some (.nx, (e.set j0 q.1).set j1 q.2)
section
variable {ι : Type} {Xf : ι → Cx} {P : Program} {w : World} {K : PySem.W.Frag} {mg : Str → Option Value} {base : Heap} {n : Nat} [F : Fam Xf P w K mg base n]
variable {M : Mk} {m mn : List Ty} {pos pos' p tpos q0 q1 q2 : Pos} {x x0 x1 x2 : Str} {rest : List Stmt} {g : Sf} {t2 : Ty}
end
section
variable {ι : Type} {Xf : ι → Cx} {P : Program} {w : World} {K : PySem.W.Frag} {mg : Str → Option Value} {base : Heap} {n : Nat} [F : Fam Xf P w K mg base n]
variable {m : List Ty} {pos : Pos} {x : Str} {ts : List Ty} {t : Ty} {v : V}
end
def lAl (j : Nat) (r : Lf) : Lf := fun e => (r e).bind fun p => some (p.2.getD j .none :: p.1, p.2)
section
variable {ι : Type} {Xf : ι → Cx} {P : Program} {w : World} {K : PySem.W.Frag} {mg : Str → Option Value} {base : Heap} {n : Nat} [F : Fam Xf P w K mg base n]
variable {m m2 : List Ty} {p : Pos} {es : List Expr} {fr : Lf} {t : Ty} {tys : List Ty} {L : List (Option Nat)}
end
end DL
namespace DL
open PySem PySem.W PySem.Calls PyProof.Rows
section
variable {prog : Program} {w : World} {A : Around} {E : Value → Shared → Prop} {s : Shared}
end
end DL
namespace DL
open PySem L2 PySem.Spec
section
variable {ι : Type} {Xf : ι → Cx} {P : Program} {w : World} {K : PySem.W.Frag} {mg : Str → Option Value} {base : Heap} {n : Nat} [F : Fam Xf P w K mg base n]
end
end DL
namespace DL
open PySem L2 PySem.Spec PyProof.Rows
section
variable {X : Cx} {e : Expr} {te : TE} {p apos cpos pos : Pos}
end
def gDVals (d : PyData) : Option PyData := match d with
  | .dict kvs => some (.list (kvs.map (·.2)))
  | _ => none
def eDVals (j : Nat) : Ef := fun e => (gDVals (e.getD j .none)).bind fun d => some (d, e)
section
variable {ι : Type} {Xf : ι → Cx} {P : Program} {w : World} {K : PySem.W.Frag} {mg : Str → Option Value} {base : Heap} {n : Nat} [F : Fam Xf P w K mg base n]
variable {m m1 m2 m3 : List Ty} {pos p p2 apos cpos xp : Pos} {a b c : Expr} {f g h : Ef}
end
end DL
namespace DL
open PySem L2 PySem.Spec
def sAsgE (tw : CT) (j : Nat) (f : Ef) : Sf := fun e => (f e).bind fun p => (gIsOk tw p.1).bind fun w => (asB w).bind fun b => if b = true then (gUn p.1).bind fun d => some (.nx, p.2.set j d) else some (.rt p.1, p.2)
def sDropE (tw : CT) (f : Ef) : Sf := fun e => (f e).bind fun p => (gIsOk tw p.1).bind fun w => (asB w).bind fun b => if b = true then some (.nx, p.2) else some (.rt p.1, p.2)
def sRetE (tw : CT) (f : Ef) : Sf := fun e => (f e).bind fun p => (gIsOk tw p.1).bind fun _ => some (.rt p.1, p.2)
def tryR (tb : CT) (j : Nat) (fs : Sf) : Out × En → Option (Out × En)
  | (.rt v, e) => (gIsOk tb v).bind fun w => (asB w).bind fun b => if b = true then (gUn v).bind fun d => some (.rt d, e) else fs (e.set j v)
  | (.nx, e) => some (.nx, e)
  | (.bk, e) => some (.bk, e)
  | (.ct, e) => some (.ct, e)
def tryR0 (tb : CT) (fs : Sf) : Out × En → Option (Out × En)
  | (.rt v, e) => (gIsOk tb v).bind fun w => (asB w).bind fun b => if b = true then (gUn v).bind fun d => some (.rt d, e) else fs e
  | (.nx, e) => some (.nx, e)
  | (.bk, e) => some (.bk, e)
  | (.ct, e) => some (.ct, e)
def sTryB (tb : CT) (j : Nat) (fb fs : Sf) : Sf := fun e => (fb e).bind (tryR tb j fs)
def sTryC (tb : CT) (fb fs : Sf) : Sf := fun e => (fb e).bind (tryR0 tb fs)
section
variable {tw tG tb : CT} {j : Nat} {Fn : DFn} {fr : Lf}
end
section
variable {K : PySem.W.Frag} {mg : Str → Option Value} {M : Mk} {G H G1 H1 : Hp} {m m1 m2 mn mx ml : List Ty} {W : WX} {σ σ1 : St} {e : En} {A A1 : List Addr} {D : Ends} {e' : En} {t u : TS} {f : Sf} {gf : Gf} {lf : Lf} {tb : CT}
theorem DSX.for {wk : Bool} {wi : L2.TI} {tg : TG} {sl : List Nat} (hi : DI K wk m wi lf m1) (l1 : LeM m1 ml) (hg : DG K wk ml tg sl gf m2) (hb : DSX K mg { M with b := mn, c := ml } mx W m2 t (decX tb f) ml) (l2 : LeM ml mn) (hp : ∀ j ∈ M.po, j ∉ sl) :
    DSX K mg M mx W m (tFor wi tg t) (decX tb (sFor lf gf f)) mn := by
  intro G H σ e A oX e' D st hf0 k
  obtain ⟨⟨o, e9⟩, hf, hdec⟩ := oBs hf0
  obtain ⟨⟨ds, e1⟩, hf1, hf⟩ := oBs hf
  refine hi st hf1 fun G1 H1 A1 J s1 st1 wk hz => ?_
  obtain ⟨G2, A2, s2, st2⟩ := stt_le l1 st1
  let T := fun (i : Nat) (σc : St) (Hc : Hp) => ∃ Gc ec A', Step A G H A' Gc Hc ∧ Same G1 Gc ∧ Stt K ml Gc Hc σc ec A' ∧ Pin M.po σ σc ∧ forL gf f (ds.drop i) ec = some (o, e9)
  refine ⟨fun i mm σc Hc => mm = ds.length - i ∧ i ≤ ds.length ∧ T i σc Hc, ⟨ds.length, by omega, Nat.zero_le _, G2, e1, A2, s1.seq0 s2, s2.sg, st2, Pin.refl, hf⟩, ?_⟩
  rintro i mm σc Hc ⟨rfl, hle, Gc, ec, A', sc, sg, stc, pc, hl⟩
  have sub1 : Same G1 Hc := sg.trans stc.sub
  by_cases hi : i < ds.length
  · refine .inr ⟨wk.goes i Hc hi sub1, fun σn Hn => i < ds.length ∧ T (i + 1) σn Hn, fun σn Hn hn => ⟨ds.length - (i + 1), by omega, rfl, by omega, hn.2⟩, fun x Hy hy => ?_⟩
    obtain ⟨Gy, sy, sty, sgy, qy⟩ := wk.yields hi sg stc hy
    have hd : ds.drop i = ds[i] :: ds.drop (i + 1) := List.drop_eq_getElem_cons hi
    rw [hd] at hl
    unfold forL at hl
    obtain ⟨e2, hl1, hl⟩ := oBs hl
    obtain ⟨⟨o3, e3⟩, hl2, hl⟩ := oBs hl
    refine hg sty (qy _ (List.getElem?_eq_getElem hi)) hl1 fun G3 H3 σ3 A3 s3 st3 k3 l3 => ?_
    have p3 : Pin M.po σ σ3 := pc.trans fun j hj => k3 j (hp j hj)
    have s03 := (sc.seq0 sy).seq0 s3
    cases o3 with
    | nx =>
      refine hb (o := .o .nx) (e' := e3) st3 (by unfold decX; rw [hl2]; rfl) ?_
      exact fun G4 H4 σ4 A4 s4 st4 p4 => ⟨hi, G4, e3, A4, s03.seq0 s4, ((sg.trans sgy).trans s3.sg).trans s4.sg, st4, p3.trans p4, hl⟩
    | ct =>
      refine hb (o := .o .ct) (e' := e3) st3 (by unfold decX; rw [hl2]; rfl) ?_
      exact fun G4 H4 σ4 A4 s4 st4 p4 => ⟨hi, G4, e3, A4, s03.seq0 s4, ((sg.trans sgy).trans s3.sg).trans s4.sg, st4, p3.trans p4, hl⟩
    | bk =>
      cases hl
      cases hdec
      refine hb (o := .o .bk) st3 (by unfold decX; rw [hl2]; rfl) ?_
      exact fun G4 H4 σ4 A4 s4 st4 p4 => k G4 H4 σ4 A4 (s03.seq0 s4) st4 (p3.trans p4)
    | rt r =>
      cases hl
      obtain ⟨r1, h9, h10⟩ := oBs hdec
      cases r1 with
      | ok d =>
        cases h10
        refine hb (o := .o (.rt d)) st3 (by unfold decX; rw [hl2]; show ((decR tb r).bind _ : Option (OutX × En)) = _; rw [h9]; rfl) ?_
        exact fun G4 H4 σ4 v Av A4 s4 st4 o4 nd4 p4 => k G4 H4 σ4 v Av A4 (s03.seq0 s4) st4 o4 nd4 (p3.trans p4)
      | ex c fs =>
        cases h10
        refine hb (o := .ex c fs) st3 (by unfold decX; rw [hl2]; show ((decR tb r).bind _ : Option (OutX × En)) = _; rw [h9]; rfl) ?_
        exact fun G4 H4 σ4 A4 cls dx s4 st4 p4 ex => k G4 H4 σ4 A4 cls dx (s03.seq0 s4) st4 (p3.trans p4) ex
  · have hie : i = ds.length := by omega
    subst hie
    rw [List.drop_length] at hl
    cases hl
    cases hdec
    obtain ⟨G4, A4, s4, st4⟩ := stt_le l2 stc
    exact .inl ⟨wk.stops Hc sub1, k G4 Hc σc A4 (sc.seq0 s4) st4 pc⟩
theorem DSX.post {js jr : List Nat} (h : DSX K mg M mx W m t (decX tb f) mn) (o1 : fgOk js mn = true) (o2 : fgOk js M.b = true) (o3 : fgOk js M.c = true) (o4 : fgOk jr M.r = true) (o5 : fgOk jr mx = true) : DSX K mg M mx W m t (decX tb (sPost js jr f)) mn := by
  intro G H σ e A o e' D st hf k
  obtain ⟨⟨oo, ee⟩, hf1, hf⟩ := oBs hf
  obtain ⟨⟨o0, e0⟩, hf2, hf3⟩ := oBs hf1
  simp only [Option.some.injEq, Prod.mk.injEq] at hf3
  obtain ⟨rfl, rfl⟩ := hf3
  cases o0 with
  | nx =>
    cases hf
    refine h (o := .o .nx) (e' := e0) st (by unfold decX; rw [hf2]; rfl) ?_
    exact fun G' H' σ' A' s' st' p' => k G' H' σ' A' s' (stt_fg o1 st') p'
  | bk =>
    cases hf
    refine h (o := .o .bk) (e' := e0) st (by unfold decX; rw [hf2]; rfl) ?_
    exact fun G' H' σ' A' s' st' p' => k G' H' σ' A' s' (stt_fg o2 st') p'
  | ct =>
    cases hf
    refine h (o := .o .ct) (e' := e0) st (by unfold decX; rw [hf2]; rfl) ?_
    exact fun G' H' σ' A' s' st' p' => k G' H' σ' A' s' (stt_fg o3 st') p'
  | rt r =>
    obtain ⟨r1, h9, h10⟩ := oBs hf
    cases r1 with
    | ok d =>
      cases h10
      refine h (o := .o (.rt d)) (e' := e0) st (by unfold decX; rw [hf2]; show ((decR tb r).bind _ : Option (OutX × En)) = _; rw [h9]; rfl) ?_
      exact fun G' H' σ' v Av A' s' st' ov nd p' => k G' H' σ' v Av A' s' (stt_fg o4 st') ov nd p'
    | ex c fs =>
      cases h10
      refine h (o := .ex c fs) (e' := e0) st (by unfold decX; rw [hf2]; show ((decR tb r).bind _ : Option (OutX × En)) = _; rw [h9]; rfl) ?_
      exact fun G' H' σ' A' cls dx s' st' p' ex => k G' H' σ' A' cls dx s' (stt_fg o5 st') p' ex
end
section
variable {ι : Type} {Xf : ι → Cx} {W : WX} {P : Program} {w : World} {K : PySem.W.Frag} {mg : Str → Option Value} {base : Heap} {n : Nat} [F : Fam Xf P w K mg base n]
variable {M : Mk} {m m1 m2 mn mx ml : List Ty} {pos p p2 p3 cp spos np np2 pos' : Pos} {c v a tg iter : Expr} {es : List Expr} {st : Stmt} {rest body orelse suite : List Stmt} {b₀ : Stmt} {f g fb fs : Sf} {gf : Gf} {lf : Lf} {fx gx : SfX} {bf : Bf} {ef : Ef} {fr : Lf} {tys : List Ty} {L : List (Option Nat)} {tb tw tG : CT} {rty ty : Ty} {Fn : DFn} {sl : List Nat}
end
section
variable {ι : Type} {Xf : ι → Cx} {P : Program} {w : World} {K : PySem.W.Frag} {mg : Str → Option Value} {base : Heap} {n : Nat} [F : Fam Xf P w K mg base n]
variable {M : Mk} {m mn mx : List Ty} {pos pos' np2 : Pos} {x nm : Str} {cx : Value} {body suite : List Stmt} {b₀ : Stmt} {fb fs : Sf}
end
end DL
namespace DL
end DL
namespace DL
open PySem L2 PySem.Spec
def flatD : List PyData → Option (List PyData)
  | [] => some []
  | d :: ds => (seqD d).bind fun xs => (flatD ds).bind fun ys => some (xs ++ ys)
def gFlat (d : PyData) : Option PyData := (seqD d).bind fun ds => (flatD ds).bind fun ys => if ys.length ≤ sizeLine then some (.list ys) else none
theorem flat_snoc : ∀ {ds : List PyData} {d : PyData} {ys xs : List PyData}, flatD ds = some ys → seqD d = some xs → flatD (ds ++ [d]) = some (ys ++ xs)
  | [], d, ys, xs, h, h2 => by
    cases h
    show (seqD d).bind _ = _
    rw [h2]
    show some (xs ++ []) = some ([] ++ xs)
    rw [List.append_nil, List.nil_append]
  | c :: ds, d, ys, xs, h, h2 => by
    obtain ⟨cs, h3, h4⟩ := oBs h
    obtain ⟨zs, h5, h6⟩ := oBs h4
    cases h6
    have := flat_snoc h5 h2
    show (seqD c).bind _ = _
    rw [h3, Option.bind_some]
    show (flatD (ds ++ [d])).bind _ = _
    rw [this, Option.bind_some, List.append_assoc]
theorem flat_some : ∀ {ds ys : List PyData} {i : Nat}, flatD ds = some ys → i < ds.length → ∃ xs, seqD (ds[i]?.getD .none) = some xs
  | d :: ds, ys, 0, h, _ => by
    obtain ⟨cs, h3, _⟩ := oBs h
    exact ⟨cs, h3⟩
  | d :: ds, ys, i + 1, h, hi => by
    obtain ⟨cs, h3, h4⟩ := oBs h
    obtain ⟨zs, h5, _⟩ := oBs h4
    have := flat_some h5 (show i < ds.length by simpa using hi)
    simpa using this
theorem flat_cut : ∀ {ds ys : List PyData} (i : Nat), flatD ds = some ys → ∃ zs, flatD (ds.take i) = some zs ∧ zs.length ≤ ys.length
  | ds, ys, 0, h => ⟨[], rfl, Nat.zero_le _⟩
  | [], ys, i + 1, h => ⟨ys, h, Nat.le_refl _⟩
  | d :: ds, ys, i + 1, h => by
    obtain ⟨cs, h3, h4⟩ := oBs h
    obtain ⟨zs, h5, h6⟩ := oBs h4
    cases h6
    obtain ⟨ws, h7, h8⟩ := flat_cut i h5
    refine ⟨cs ++ ws, ?_, by simp only [List.length_append]; omega⟩
    show (seqD d).bind _ = _
    rw [h3, Option.bind_some]
    show (flatD (ds.take i)).bind _ = _
    rw [h7]; rfl
def Agr (vs : List Nat) (a b : En) : Prop := a.length = b.length ∧ ∀ k, k ∉ vs → a[k]? = b[k]?
theorem Agr.set {vs : List Nat} {a b : En} {v : Nat} {d : PyData} (h : Agr vs a b) (hv : v ∈ vs) : Agr vs (a.set v d) b :=
  ⟨by rw [List.length_set]; exact h.1, fun k hk => by rw [List.getElem?_set_ne fun z => hk (by rw [← z]; exact hv)]; exact h.2 k hk⟩
theorem Agr.rest {vs : List Nat} {a b : En} (h : Agr vs a b) : restE b a vs = b := by
  induction vs generalizing a with
  | nil => exact List.ext_getElem? fun k => h.2 k (by simp)
  | cons v vs ih =>
    unfold restE
    refine ih ⟨by rw [List.length_set]; exact h.1, fun k hk => ?_⟩
    by_cases c : v = k
    · subst c
      rw [List.getElem?_set]
      by_cases l : v < a.length
      · rw [if_pos rfl, if_pos l, List.getD_eq_getElem?_getD, List.getElem?_eq_getElem (by rw [← h.1]; exact l)]; rfl
      · rw [if_pos rfl, if_neg l, List.getElem?_eq_none (by rw [← h.1]; omega)]
    · rw [List.getElem?_set_ne c]
      exact h.2 k fun z => by
        rcases List.mem_cons.mp z with z | z
        · exact c z.symm
        · exact hk z
section
variable {K : PySem.W.Frag} {G H : Hp} {m m1 m2 : List Ty}
theorem rest_next {vs : List Nat} {σ σ3 : St} {ec e5 : En} {A5 : List Addr} (le : LeM m2 (hideM m1 vs)) (us : usB m1 vs = true) (ws : wipe σ3 vs = wipe σ vs) (st5 : Stt K m2 G H σ3 e5 A5) :
    ∃ G6 A6, Step A5 G H A6 G6 H ∧ Stt K (hideM m1 vs) G6 H (wipe σ vs) (restE ec e5 vs) A6 := by
  obtain ⟨G6, A6, s6, st6⟩ := stt_le le st5
  refine ⟨G6, A6, s6, ⟨?_, st6.nd, st6.sub⟩⟩
  have hidem : ∀ (us : List Nat) (e' : En) (σ' : St) {A : List Addr} {H : Hp} {G : Hp} {mm : List Ty}, OwnA K G H mm e' σ' A → (∀ v ∈ us, mm[v]? = some .u) → OwnA K G H mm (restE ec e' us) (wipe σ' us) A := by
    intro us
    induction us with
    | nil => intro e' σ' A H G mm h _; exact h
    | cons v us ih =>
      intro e' σ' A H G mm h hu
      unfold restE wipe
      have hv := hu v (List.mem_cons_self ..)
      have a := ownA_set0 (t := .u) (d := ec.getD v .none) (v := none) h (.inl hv) (.u _ _)
      rw [set_id hv] at a
      have b := ih _ _ a fun x hx => hu x (List.mem_cons_of_mem _ hx)
      have c : wipe (σ'.set v none) us = (wipe σ' us).set v none := by
        clear ih a b hv hu h
        induction us with
        | nil => rfl
        | cons u us ihu =>
          unfold wipe
          rw [ihu]
          by_cases q : u = v
          · subst q; rfl
          · rw [List.set_comm _ _ (fun z => q z.symm)]
      rw [c] at b; exact b
  have hu : ∀ v ∈ vs, (hideM m1 vs)[v]? = some .u := by
    have aux : ∀ us : List Nat, usB m1 us = true → ∀ v ∈ us, (hideM m1 us)[v]? = some .u := by
      intro us
      induction us with
      | nil => intro _ v h; cases h
      | cons u us ih =>
        intro hus v hv
        obtain ⟨h1, h2, h3⟩ := us_cons hus
        unfold hideM
        by_cases q : u = v
        · subst q
          have : u < (hideM m1 us).length := by
            rw [← hideM_get (m := m1) h2] at h1
            rcases h1 with z | z <;> exact (List.getElem?_eq_some_iff.mp z).1
          simp [this]
        · rw [List.getElem?_set_ne q]
          rcases List.mem_cons.mp hv with z | z
          · exact absurd z.symm q
          · exact ih h3 v z
    exact aux vs us
  have := hidem vs e5 σ3 st6.own hu
  rw [ws] at this
  exact this
end
theorem Agr.rest2 {vs ws : List Nat} {a b c : En} (h : Agr ws a c) (hb : Agr ws b c) (sub : ∀ v ∈ vs, v ∈ ws) : Agr ws (restE b a vs) c := by
  induction vs generalizing a with
  | nil => exact h
  | cons v vs ih => exact ih (h.set (sub v (List.mem_cons_self ..))) fun x hx => sub x (List.mem_cons_of_mem _ hx)
theorem DE.flat {K : PySem.W.Frag} {m m1 : List Ty} {wk : Bool} {wi wi1 : L2.TI} {g g1 : TG} {tt tt1 : TT} {te : TE} {f : Ef} {j0 j1 : Nat} {ml mi : List Ty} (hi : DI K wk m wi (iSeq f) m1)
    (hm2 : hideM m1 [j0, j1] = ml) (hg : DG K wk ml g [j0] (gNm j0) (ml.set j0 .s)) (ht : DT K (ml.set j0 .s) tt bYes (ml.set j0 .s)) (hi1 : DI K false (ml.set j0 .s) wi1 (iSeq (eVar j0)) (ml.set j0 .s))
    (hmi : hideM (ml.set j0 .s) [j1] = mi) (hg1 : DG K false mi g1 [j1] (gNm j1) (mi.set j1 .s)) (ht1 : DT K (mi.set j1 .s) tt1 bYes (mi.set j1 .s)) (he : DE K (mi.set j1 .s) te .s (eVar j1) (mi.set j1 .s))
    (us : usB m1 [j0, j1] = true) (us1 : usB (ml.set j0 .s) [j1] = true) (l1 : LeM (mi.set j1 .s) (hideM (ml.set j0 .s) [j1])) (l0 : LeM mi (hideM m1 [j0, j1])) (hj0 : j0 < m1.length) (hj1 : j1 < m1.length) :
    DE K m (tLc2 wi g tt wi1 g1 tt1 te [j0, j1] [j1]) (.l .s) (e1 gFlat f) m1 := by
  intro G H σ e A d e' Q st hf k
  unfold e1 at hf
  obtain ⟨⟨d1, e1⟩, hf1, hf⟩ := oBs hf
  obtain ⟨r0, hf2, hf⟩ := oBs hf
  cases hf
  unfold gFlat at hf2
  obtain ⟨ds, hds, hf2⟩ := oBs hf2
  obtain ⟨ys, hys, hf2⟩ := oBs hf2
  obtain ⟨hyl, rfl⟩ := ite_some hf2
  refine hi st (show iSeq f e = some (ds, e1) by unfold iSeq; rw [hf1]; show (seqD d1).bind _ = _; rw [hds]; rfl) fun G1 H1 A1 J s1 st1 wkJ hz => ?_
  intro D hD
  have st1' : Stt K (hideM m1 [j0, j1]) G1 H1 (wipe σ [j0, j1]) e1 A1 := ⟨wipeA st1.own us, st1.nd, st1.sub⟩
  obtain ⟨s2, st2, nd2, gD⟩ := new_o (o := .lst []) (B := []) st1' hD
  have len1 : e1.length = m1.length := (ownA_len st1.own).1.symm
  let T := fun (i : Nat) (Hc : Hp) => ∃ Gc ec A' acc da, LcI K (hideM m1 [j0, j1]) .s A1 G1 H1 D (wipe σ [j0, j1]) Gc Hc ec A' [] acc da ∧ flatD (ds.take i) = some da ∧ Agr [j0, j1] ec e1
  refine ⟨fun i mm Hc => mm = ds.length - i ∧ i ≤ ds.length ∧ T i Hc, ⟨ds.length, by omega, Nat.zero_le _, G1, e1, A1, [], [], ⟨s2, st2, upd_same, gD, .nil, nd2⟩, rfl, rfl, fun k _ => rfl⟩, ?_⟩
  rintro i mm Hc ⟨rfl, hle, Gc, ec, A', acc, da, I, hda, agr⟩
  have sub1 : Same G1 Hc := I.step.sg.trans I.st.sub
  by_cases hi' : i < ds.length
  · refine .inr ⟨wkJ.goes i Hc hi' sub1, fun Hn => i < ds.length ∧ T (i + 1) Hn, fun Hn hn => ⟨ds.length - (i + 1), by omega, rfl, by omega, hn.2⟩, fun x Hy hy => ?_⟩
    obtain ⟨Gy, sy, sty, sgy, qy⟩ := wkJ.yields hi' I.step.sg I.st hy
    have sty' : Stt K ml Gy Hy (wipe σ [j0, j1]) ec A' := by rw [← hm2]; exact sty
    obtain ⟨xs, hxs⟩ := flat_some hys hi'
    rw [List.getElem?_eq_getElem hi'] at hxs
    have hxs : seqD ds[i] = some xs := hxs
    refine hg sty' (qy _ (List.getElem?_eq_getElem hi')) rfl fun G3 H3 σ3 A3 s3 st3 k3 l3 => ⟨wipe_eq (fun j hj => by simp at hj; simp [hj]) k3 l3, ?_⟩
    have wσ : wipe σ3 [j0, j1] = wipe σ [j0, j1] := wipe_eq (fun j hj => by simp at hj; simp [hj]) k3 l3
    refine ht st3 rfl fun G4 H4 A4 s4 st4 => ?_
    rw [if_pos rfl]
    have lec : j0 < ec.length := by rw [agr.1, len1]; exact hj0
    have hv : iSeq (eVar j0) (ec.set j0 ds[i]) = some (xs, ec.set j0 ds[i]) := by
      show ((some ((ec.set j0 ds[i]).getD j0 .none, ec.set j0 ds[i])).bind fun p => (seqD p.1).bind fun l => some (l, p.2)) = _
      rw [Option.bind_some, List.getD_eq_getElem?_getD, List.getElem?_set_self lec]
      show (seqD ds[i]).bind _ = _
      rw [hxs]; rfl
    refine hi1 st4 hv fun G5 H5 A5 J1 s5 st5 wk1 hz1 => ?_
    have s35 := ((sy.seq0 s3).seq0 s4).seq0 s5
    obtain ⟨s6, nd6, atD6, gD6, own6⟩ := I.move s35 st5.nd
    have st6 : Stt K (hideM (ml.set j0 .s) [j1]) G5 H5 (wipe σ3 [j1]) (ec.set j0 ds[i]) A5 := ⟨wipeA st5.own us1, st5.nd, st5.sub⟩
    have agr0 : Agr [j0, j1] (ec.set j0 ds[i]) e1 := agr.set (by simp)
    have snoc := flat_snoc hda hxs
    rw [← List.take_succ_eq_append_getElem hi'] at snoc
    have cut := flat_cut (i + 1) hys
    rw [snoc] at cut
    obtain ⟨zs, hzs, hzl⟩ := cut
    cases hzs
    rw [List.length_append] at hzl
    let T1 := fun (j : Nat) (Hc : Hp) => ∃ Gc ec1 A' acc1, LcI K (hideM (ml.set j0 .s) [j1]) .s A1 G1 H1 D (wipe σ3 [j1]) Gc Hc ec1 A' [] acc1 (da ++ xs.take j) ∧ Agr [j0, j1] ec1 e1 ∧ Same G5 Gc
    refine ⟨fun j kk Hc => kk = xs.length - j ∧ j ≤ xs.length ∧ T1 j Hc, ⟨xs.length, by omega, Nat.zero_le _, G5, ec.set j0 ds[i], A5, acc, ⟨s6, st6, atD6, gD6, by rw [List.take_zero, List.append_nil]; exact own6, nd6⟩, agr0, Same.refl _⟩, ?_⟩
    rintro j kk Hc1 ⟨rfl, hle1, Gc1, ec1, A'1, acc1, I1, agr1, sg1⟩
    by_cases hj : j < xs.length
    · refine .inr ⟨wk1.goes j Hc1 hj (sg1.trans I1.st.sub), fun Hn => j < xs.length ∧ T1 (j + 1) Hn, fun Hn hn => ⟨xs.length - (j + 1), by omega, rfl, by omega, hn.2⟩, fun y Hy1 hy1 => ?_⟩
      obtain ⟨Gy1, sy1, sty1, sgy1, qy1⟩ := wk1.yields hj sg1 I1.st hy1
      have sty1' : Stt K mi Gy1 Hy1 (wipe σ3 [j1]) ec1 A'1 := by rw [← hmi]; exact sty1
      refine hg1 sty1' (qy1 _ (List.getElem?_eq_getElem hj)) rfl fun G7 H7 σ7 A7 s7 st7 k7 l7 => ⟨wipe_eq (fun j hj => hj) k7 l7, ?_⟩
      have wσ7 : wipe σ7 [j1] = wipe σ3 [j1] := wipe_eq (fun j hj => hj) k7 l7
      refine ht1 st7 rfl fun G8 H8 A8 s8 st8 => ?_
      rw [if_pos rfl]
      have lec1 : j1 < ec1.length := by rw [agr1.1, len1]; exact hj1
      have hv1 : eVar j1 (ec1.set j1 xs[j]) = some (xs[j], ec1.set j1 xs[j]) := by
        show some ((ec1.set j1 xs[j]).getD j1 .none, ec1.set j1 xs[j]) = _
        rw [List.getD_eq_getElem?_getD, List.getElem?_set_self lec1]; rfl
      refine he st8 hv1 fun G9 H9 v Av A9 s9 st9 o9 nd9 => ?_
      cases o9 with
      | s q9 =>
        obtain ⟨G10, A10, s10, st10⟩ := rest_next (ec := ec1) l1 us1 wσ7 st9
        have s79 := ((sy1.seq0 s7).seq0 s8).seq0 (s9.seq0 s10)
        obtain ⟨sX, ndX, atX, gX, ownX⟩ := I1.move s79 st10.nd
        have hacc : acc1.length = (da ++ xs.take j).length := by have := (ownA_len I1.own).2; simpa using this
        have hz' : acc1.length < sizeLine := by
          rw [hacc, List.length_append, List.length_take]; omega
        refine ⟨acc1, atX, hz', hj, G10, restE ec1 (ec1.set j1 xs[j]) [j1], A10, acc1 ++ [v], ?_, Agr.rest2 (agr1.set (by simp)) agr1 (fun v hv => by simp at hv; simp [hv]), ((sg1.trans sgy1).trans (s7.sg.trans s8.sg)).trans (s9.sg.trans s10.sg)⟩
        have nD : ∀ a ∈ A10, a ≠ D := fun a ha z => (List.nodup_cons.mp ndX).1 (z ▸ ha)
        have frD : ∀ a, a ≠ D → upd H9 D (.lst (acc1 ++ [v])) a = H9 a := fun a ha => upd_ne ha
        refine ⟨⟨sX.sg, fun a o h ha => ?_, sX.own, sX.gnew⟩, ⟨ownA_fr st10.own (Same.refl _) (fun a ha => (ownA_at st10.own a ha).1) fun a ha => frD a (nD a ha), st10.nd, fun b x hx => ?_⟩, upd_same, gX, ?_, ndX⟩
        · rw [frD a (ne_of_none h hD)]; exact sX.fr a o h ha
        · rw [frD b (ne_of_none hx gX)]; exact st10.sub b x hx
        · have a1 : OwnA K G10 (upd H9 D (.lst (acc1 ++ [v]))) (List.replicate (da ++ xs.take j).length .s) (da ++ xs.take j) (acc1.map some) [] := ownA_fr ownX (Same.refl _) (fun a ha => by cases ha) fun a ha => by cases ha
          have a2 : Own K G10 (upd H9 D (.lst (acc1 ++ [v]))) .s xs[j] (some v) [] := .s (q9.mono s10.sg)
          have a3 := ownA_snoc a1 a2
          have eda : da ++ xs.take (j + 1) = (da ++ xs.take j) ++ [xs[j]] := by rw [List.take_succ_eq_append_getElem hj, List.append_assoc]
          rw [eda, List.length_append, List.length_singleton, List.replicate_succ', List.map_append]
          exact a3
    · have hje : j = xs.length := by omega
      subst hje
      refine .inl ⟨wk1.stops Hc1 (sg1.trans I1.st.sub), hi', ?_⟩
      have own1 : Stt K mi Gc1 Hc1 (wipe σ3 [j1]) ec1 A'1 := by rw [← hmi]; exact I1.st
      have ww : wipe (wipe σ3 [j1]) [j0, j1] = wipe σ [j0, j1] := by
        rw [← wσ]
        show (((σ3.set j1 none).set j1 none).set j0 none) = ((σ3.set j1 none).set j0 none)
        rw [List.set_set]
      obtain ⟨G11, A11, s11, st11⟩ := rest_next (ec := ec1) l0 us ww own1
      obtain ⟨sX, ndX, atX, gX, ownX⟩ := I1.move s11 st11.nd
      rw [List.take_length] at ownX
      refine ⟨G11, restE ec1 ec1 [j0, j1], A11, acc1, da ++ xs, ⟨sX, st11, atX, gX, ownX, ndX⟩, snoc, Agr.rest2 agr1 agr1 fun v hv => hv⟩
  · have hie : i = ds.length := by omega
    subst hie
    refine .inl ⟨wkJ.stops Hc sub1, ?_⟩
    rw [List.take_length, hys] at hda
    cases hda
    have un := unwipeA (e' := ec) st1.own I.step.sg us I.st.own
    rw [agr.rest] at un
    refine k Gc Hc (.ref D) [D] A' (s1.seq0 ⟨I.step.sg, I.step.fr, I.step.own, I.step.gnew⟩) ⟨un, I.st.nd, I.st.sub⟩ (.l I.gD I.atD ?_ I.own) I.nd
    have hacc := (ownA_len I.own).2
    rw [List.length_map] at hacc
    omega
section
variable {ι : Type} {Xf : ι → Cx} {P : Program} {w : World} {K : PySem.W.Frag} {mg : Str → Option Value} {base : Heap} {n : Nat} [F : Fam Xf P w K mg base n]
variable {m m1 : List Ty} {pos p0 p1 p2 p3 : Pos} {iter : Expr} {scope : Scope} {f : Ef} {x0 x1 : Str} {j0 j1 : Nat}
end
end DL
namespace DL
open PySem L2 PySem.Spec
def sc1 : PyData → Bool
  | .none => true
  | .bool _ => true
  | .int _ => true
  | .str _ => true
  | _ => false
def flat1 : PyData → Bool
  | .tuple xs => xs.all sc1
  | d => sc1 d
def eThaw (f : Ef) : Ef := fun e => (f e).bind fun p => (grd (flat1 p.1)).bind fun _ => some p
def PureE (f : Ef) : Prop := ∀ e d e', f e = some (d, e') → e' = e
def PureB (f : Bf) : Prop := ∀ e d e', f e = some (d, e') → e' = e
def PureL (f : Lf) : Prop := ∀ e d e', f e = some (d, e') → e' = e
section
variable {f g h : Ef} {fb gb : Bf} {fl gl : Lf} {fo go : Of} {gf : Gf} {gs : Gsf} {vs : List Nat} {fq gq : Gq}
theorem pure_var {j : Nat} : PureE (eVar j) := fun e d e' h => by cases h; rfl
theorem pure_c {d : PyData} : PureE (eC d) := fun e d e' h => by cases h; rfl
theorem pure_e2 {gg : PyData → PyData → Option PyData} (h : PureE f) (k : PureE g) : PureE (e2 gg f g) := fun e d e' hh => by
  obtain ⟨⟨a, ea⟩, h1, h2⟩ := oBs hh
  obtain ⟨⟨b, eb⟩, h3, h4⟩ := oBs h2
  obtain ⟨r, _, h5⟩ := oBs h4
  cases h5
  have z1 := h _ _ _ h1
  have z2 := k _ _ _ h3
  rw [z2, z1]
theorem purel_nil : PureL lNil := fun e d e' h => by cases h; rfl
theorem purel_cons (h : PureE f) (k : PureL fl) : PureL (lCons f fl) := fun e d e' hh => by
  obtain ⟨⟨a, ea⟩, h1, h2⟩ := oBs hh
  obtain ⟨⟨b, eb⟩, h3, h4⟩ := oBs h2
  cases h4
  have z1 := h _ _ _ h1
  have z2 := k _ _ _ h3
  rw [z2, z1]
theorem pure_lst (h : PureL fl) : PureE (eLst fl) := fun e d e' hh => by
  rw [rLst] at hh
  obtain ⟨⟨a, ea⟩, h1, h2⟩ := oBs hh
  cases h2
  exact h _ _ _ h1
theorem pureb_t (h : PureE f) : PureB (bT f) := fun e d e' hh => by
  rw [rbT] at hh
  obtain ⟨⟨a, ea⟩, h1, h2⟩ := oBs hh
  obtain ⟨b, _, h3⟩ := oBs h2
  cases h3
  exact h _ _ _ h1
theorem Agr.refl {vs : List Nat} {a : En} : Agr vs a a := ⟨rfl, fun _ _ => rfl⟩
theorem Agr.trans {vs : List Nat} {a b c : En} (h : Agr vs a b) (k : Agr vs b c) : Agr vs a c := ⟨h.1.trans k.1, fun j hj => (h.2 j hj).trans (k.2 j hj)⟩
end
section
variable {K : PySem.W.Frag} {G G' H H' : Hp}
theorem own_kind {t : Ty} {d : PyData} {v : Option V} {A : List Addr} (h : Own K G H t d v A) : ∀ a ∈ A, (∃ vs, H a = some (.lst vs)) ∨ (∃ kvs, H a = some (.dK kvs)) ∨ (∃ φ, H a = some (.ext φ)) ∨ (∃ C dx fs, H a = some (.ins C dx fs)) ∨ (∃ x, H a = some (.own x)) ∨ ∃ ps, H a = some (.tbl ps) := by
  refine Own.rec (K := K) (G := G) (H := H) (motive_1 := fun t d v A _ => ∀ a ∈ A, (∃ vs, H a = some (.lst vs)) ∨ (∃ kvs, H a = some (.dK kvs)) ∨ (∃ φ, H a = some (.ext φ)) ∨ (∃ C dx fs, H a = some (.ins C dx fs)) ∨ (∃ x, H a = some (.own x)) ∨ ∃ ps, H a = some (.tbl ps)) (motive_2 := fun ts ds vs A _ => ∀ a ∈ A, (∃ vs, H a = some (.lst vs)) ∨ (∃ kvs, H a = some (.dK kvs)) ∨ (∃ φ, H a = some (.ext φ)) ∨ (∃ C dx fs, H a = some (.ins C dx fs)) ∨ (∃ x, H a = some (.own x)) ∨ ∃ ps, H a = some (.tbl ps)) ?_ ?_ ?_ ?_ ?_ ?_ ?_ ?_ ?_ ?_ ?_ ?_ ?_ ?_ ?_ ?_ h
  · intro d v a ha; cases ha
  · intro d v _ a ha; cases ha
  · intro a ns _ _ b hb; cases hb
  · intro a kvs ds h1 h2 _ _ _ b hb
    rw [List.mem_singleton.mp hb]
    exact .inr (.inl ⟨_, h2⟩)
  · intro t a vs ds A h1 h2 _ _ ih b hb
    rcases List.mem_cons.mp hb with rfl | hb
    · exact .inl ⟨_, h2⟩
    · exact ih b hb
  · intro t a vs ds A h1 h2 _ _ ih b hb
    rcases List.mem_cons.mp hb with rfl | hb
    · exact .inl ⟨_, h2⟩
    · exact ih b hb
  · intro a dx fs c ds _ _ b hb; cases hb
  · intro t d v A _ ih; exact ih
  · intro d v b hb; cases hb
  · intro a kvs ds h1 h2 _ _ _ _ b hb
    rw [List.mem_singleton.mp hb]
    exact .inr (.inr (.inl ⟨_, h2⟩))
  · intro C dx a ns ts fs ds A h1 h2 h3 h4 _ _ ih b hb
    rcases List.mem_cons.mp hb with rfl | hb
    · exact .inr (.inr (.inr (.inl ⟨_, _, _, h3⟩)))
    · rcases List.mem_cons.mp hb with rfl | hb
      · exact .inr (.inr (.inr (.inr (.inl ⟨_, h4⟩))))
      · exact ih b hb
  · intro C dx a ns fs ds _ _ _ b hb; cases hb
  · intro a o kvs ds _ _ _ _ b hb; cases hb
  · intro Φ d v A ok h; exact ok.kd h
  · intro a ha; cases ha
  · intro t ts d ds v vs A B _ _ i1 i2 a ha
    rcases List.mem_append.mp ha with ha | ha
    · exact i1 a ha
    · exact i2 a ha
theorem ownA_kind {t : List Ty} {d : List PyData} {v : List (Option V)} {A : List Addr} (h : OwnA K G H t d v A) : ∀ a ∈ A, (∃ vs, H a = some (.lst vs)) ∨ (∃ kvs, H a = some (.dK kvs)) ∨ (∃ φ, H a = some (.ext φ)) ∨ (∃ C dx fs, H a = some (.ins C dx fs)) ∨ (∃ x, H a = some (.own x)) ∨ ∃ ps, H a = some (.tbl ps) := by
  induction t generalizing d v A with
  | nil => cases h; intro a ha; cases ha
  | cons t ts ih =>
    cases h with
    | cons h1 h2 =>
      intro a ha
      rcases List.mem_append.mp ha with ha | ha
      · exact own_kind h1 a ha
      · exact ih h2 a ha
theorem sc1_dq {v : V} {d : PyData} (h : Dq K G v d) (hs : sc1 d = true) : Dq K G' v d := by
  cases h with
  | non => exact .non
  | bl b => exact .bl b
  | int i => exact .int i
  | str x hx => exact .str x hx
  | lst => cases hs
  | tup => cases hs
  | dic => cases hs
  | dv => cases hs
  | ob => cases hs
theorem flat1_dq {v : V} {d : PyData} (h : Dq K G v d) (hs : flat1 d = true) (same : ∀ (a : Addr) (o : Obj) (xs : List V), G a = some (.frz o (.tup xs)) → G' a = some (.frz o (.tup xs))) : Dq K G' v d := by
  cases h with
  | non => exact .non
  | bl b => exact .bl b
  | int i => exact .int i
  | str x hx => exact .str x hx
  | lst => cases hs
  | dic => cases hs
  | dv => cases hs
  | ob => cases hs
  | tup hn hl hz q =>
    refine .tup ?_ hl hz fun i v d h1 h2 => sc1_dq (q i v d h1 h2) (List.all_eq_true.mp hs d (List.mem_of_getElem? h2))
    rcases hn with ⟨o, h1, h2, h3⟩ | h
    · exact .inl ⟨o, h1, h2, same _ _ _ h3⟩
    · exact .inr h
theorem DE.thaw {te : TE} {f : Ef} {m mf : List Ty} (l : LeM m mf) (hs : ∀ t ∈ mf, stb t = true) (he : DE K mf te .s f mf) (hp : PureE f) : DE K m te .s (eThaw f) m := by
  intro G H σ e A d e' Q st hf k
  obtain ⟨⟨d1, e1⟩, hf1, hf2⟩ := oBs hf
  obtain ⟨u, hg, hf3⟩ := oBs hf2
  cases hf3
  have hfl : flat1 d = true := by
    unfold grd at hg
    split at hg
    · assumption
    · cases hg
  have z := hp _ _ _ hf1
  subst z
  obtain ⟨G1, A1, s1, st1⟩ := stt_le l st
  have z1 := stab_nil st1.own hs
  subst z1
  refine he st1 hf1 fun G2 H2 v Av A2 s2 st2 o2 nd2 => ?_
  have z2 := stab_nil st2.own hs
  subst z2
  cases o2 with
  | s q2 =>
    have at1 := ownA_at st.own
    have newA : ∀ a, G a = none → (∃ o, G1 a = some o) → a ∈ A := fun a h1 ⟨o, h2⟩ => by
      rcases s1.gnew a h1 ⟨o, h2⟩ with h | h
      · exact h
      · rw [st1.sub a o h2] at h; cases h
    have keep : ∀ a o, H a = some o → H2 a = some o := fun a o h => s2.fr a o h (by simp)
    have sg : Same G (fun b => if b ∈ A then none else G2 b) := fun b x hx => by
      have nb : b ∉ A := fun hb => by rw [(at1 b hb).1] at hx; cases hx
      show (if b ∈ A then none else G2 b) = some x
      rw [if_neg nb]
      exact s2.sg b x (s1.sg b x hx)
    refine k (fun b => if b ∈ A then none else G2 b) H2 v [] A ⟨sg, fun a o h _ => keep a o h, fun a ha => .inl (by simpa using ha), fun a h1 ⟨o, h2⟩ => ?_⟩ ⟨ownA_fr st.own sg (fun a ha => if_pos ha) fun a ha => ?_, st.nd, fun b x hx => ?_⟩ (.s (flat1_dq q2 hfl fun a o xs h => ?_)) (by simpa using st.nd)
    · by_cases ha : a ∈ A
      · exact .inl (by simpa using ha)
      · have h2 : (if a ∈ A then none else G2 a) = some o := h2
        rw [if_neg ha] at h2
        by_cases g1 : G1 a = none
        · rcases s2.gnew a g1 ⟨o, h2⟩ with h | h
          · cases h
          · exact .inr h
        · obtain ⟨x, hx⟩ := Option.ne_none_iff_exists'.mp g1
          exact absurd (newA a h1 ⟨x, hx⟩) ha
    · obtain ⟨_, o, ho⟩ := at1 a ha
      rw [ho, keep a o ho]
    · have hx : (if b ∈ A then none else G2 b) = some x := hx
      by_cases hb : b ∈ A
      · rw [if_pos hb] at hx; cases hx
      · rw [if_neg hb] at hx; exact st2.sub b x hx
    · have na : a ∉ A := fun ha => by
        have h2 := st2.sub a _ h
        rcases ownA_kind st.own a ha with ⟨vs, z⟩ | ⟨kvs, z⟩ | ⟨φ, z⟩ | ⟨C, dx, fs, z⟩ | ⟨x, z⟩ | ⟨ps, z⟩
        · rw [keep a _ z] at h2; cases h2
        · rw [keep a _ z] at h2; cases h2
        · rw [keep a _ z] at h2; cases h2
        · rw [keep a _ z] at h2; cases h2
        · rw [keep a _ z] at h2; cases h2
        · rw [keep a _ z] at h2; cases h2
      show (if a ∈ A then none else G2 a) = _
      rw [if_neg na]; exact h
end
def bTrue : Bf := fun e => some (true, e)
end DL
namespace DL
open PySem L2 PySem.Spec
def gAugS (l i y : PyData) : Option PyData := match l, i, y with
  | .list ds, .int k, .int y => (ixN ds.length k).bind fun j => match ds[j]? with
    | some (.int x) => if 0 ≤ k then some (.list (ds.set j (.int (x + y)))) else none
    | _ => none
  | _, _, _ => none
def sAugS (g : Gq) (pt : Pf) (gi gv : Gq) : Sf := fun e => (g e).bind fun d => (gi e).bind fun i => (gv e).bind fun v => (gAugS d i v).bind fun l => some (.nx, pt e l)
section
variable {K : PySem.W.Frag} {G H G1 H1 : Hp} {m m1 m2 mn : List Ty} {σ : St} {e : En} {A A1 : List Addr} {t : Ty} {ts : List Ty} {M : Mk}
end
section
variable {ι : Type} {Xf : ι → Cx} {P : Program} {w : World} {K : PySem.W.Frag} {mg : Str → Option Value} {base : Heap} {n : Nat} [F : Fam Xf P w K mg base n]
variable {M : Mk} {m m1 m2 mn ml : List Ty} {pos p p2 spos apos cpos : Pos} {a b c v o i : Expr} {f : Ef} {g gi gv : Gq} {pt : Pf} {t ty : Ty} {ts : List Ty}
end
end DL
namespace DL
open PySem L2 PySem.Spec
def joinI {α : Type} (more kvs : List (Int × α)) : List (Int × α) := more.foldl (fun acc p => putI acc p.1 p.2) kvs
def yesI {α : Type} (is : List Int) (t : α) : List (Int × α) := is.foldl (fun acc i => putI acc i t) []
def dictI : List (PyData × PyData) → Option (List (Int × PyData))
  | [] => some []
  | (.int i, d) :: r => (dictI r).map ((i, d) :: ·)
  | _ :: _ => none
def gUpdT (d s : PyData) : Option PyData := match d, s with
  | .dict kvs, .tuple xs => (dictI kvs).bind fun ds => (intsOf xs).bind fun is => if kvs.length + is.length < 100000 then some (.dict ((joinI (yesI is (.bool true)) ds).map kvD)) else none
  | _, _ => none
def eUpdT (j : Nat) (f : Ef) : Ef := fun e => (f e).bind fun p => (gUpdT (p.2.getD j .none) p.1).bind fun d => some (.none, p.2.set j d)
section
variable {K : PySem.W.Frag} {G H G1 H1 : Hp} {m m1 m2 mn : List Ty} {σ : St} {e : En} {A A1 : List Addr} {t : Ty} {ts : List Ty}
end
section
variable {ι : Type} {Xf : ι → Cx} {P : Program} {w : World} {K : PySem.W.Frag} {mg : Str → Option Value} {base : Heap} {n : Nat} [F : Fam Xf P w K mg base n]
variable {m m1 m2 m3 : List Ty} {pos p p2 apos cpos xp kp vp tp : Pos} {a b c e : Expr} {f g h : Ef} {scope : Scope} {jn : Option String}
end
end DL
namespace DL
open PySem L2 PySem.Spec
section
variable {K : PySem.W.Frag} {m m1 : List Ty} {M : Mk} {lf : Lf}
end
section
variable {ι : Type} {Xf : ι → Cx} {P : Program} {w : World} {K : PySem.W.Frag} {mg : Str → Option Value} {base : Heap} {n : Nat} [F : Fam Xf P w K mg base n]
variable {M : Mk} {m m1 m2 : List Ty} {pos p p2 apos cpos xp : Pos} {a b c : Expr} {f g h : Ef} {lf : Lf} {t1 t2 : Ty}
end
def eExtV (j l : Nat) : Ef := fun e => (gExt (e.getD j .none) (e.getD l .none)).bind fun d => some (.none, e.set j d)
section
variable {K : PySem.W.Frag} {m : List Ty}
end
section
variable {ι : Type} {Xf : ι → Cx} {P : Program} {w : World} {K : PySem.W.Frag} {mg : Str → Option Value} {base : Heap} {n : Nat} [F : Fam Xf P w K mg base n]
variable {m m1 : List Ty} {pos p p2 apos cpos xp yp : Pos}
end
end DL
namespace DL
open PySem L2 PySem.Spec
abbrev KT3 := List Int × Addr × V
section
variable {X : Cx} {pins : List (Addr × Obj)} {σ : St} {H : Hp} {s : Shared} {a b : Addr} {kvs : List KT3} {k : List Int} {A : Around} {E : Value → Shared → Prop}
end
end DL
namespace DL
open PySem L2 PySem.Spec
section
variable {X : Cx} {o i value : Expr} {td ty tv : TE} {pos pos' : Pos}
end
def isKT (k : List Int) : PyData → Bool
  | .tuple xs => decide (intsOf xs = some k)
  | _ => false
def lookT (kvs : List (PyData × PyData)) (k : List Int) : Option PyData := (kvs.find? fun p => isKT k p.1).map (·.2)
def putTD (kvs : List (PyData × PyData)) (k : List Int) (x : PyData) : List (PyData × PyData) :=
  if (kvs.any fun p => isKT k p.1) = true then kvs.map (fun p => if isKT k p.1 = true then (p.1, x) else p) else kvs ++ [(.tuple (k.map .int), x)]
def gTGet (d k : PyData) : Option PyData := match d, k with
  | .dict kvs, .tuple xs => (intsOf xs).bind fun is => lookT kvs is
  | _, _ => none
def gTIn (n : Bool) (d k : PyData) : Option PyData := match d, k with
  | .dict kvs, .tuple xs => (intsOf xs).bind fun is => some (.bool (n != (lookT kvs is).isSome))
  | _, _ => none
def gTPut (d k x : PyData) : Option PyData := match d, k with
  | .dict kvs, .tuple xs => (intsOf xs).bind fun is => if kvs.length < sizeLine then some (.dict (putTD kvs is x)) else none
  | _, _ => none
section
variable {K : PySem.W.Frag} {G H G1 H1 : Hp} {m m1 m2 mn : List Ty} {σ : St} {e : En} {A A1 : List Addr}
end
def eTGet (j : Nat) (f : Ef) : Ef := fun e => (f e).bind fun p => (gTGet (p.2.getD j .none) p.1).bind fun d => some (d, p.2)
def sTPutD (j : Nat) (fi fv : Ef) : Sf := fun e => (fv e).bind fun p => (fi p.2).bind fun q => (gTPut (q.2.getD j .none) q.1 p.1).bind fun d => some (.nx, q.2.set j d)
section
variable {ι : Type} {Xf : ι → Cx} {P : Program} {w : World} {K : PySem.W.Frag} {mg : Str → Option Value} {base : Heap} {n : Nat} [F : Fam Xf P w K mg base n]
variable {M : Mk} {m m1 m2 m3 : List Ty} {pos p p2 spos pos' apos cpos xp : Pos} {a b c : Expr} {f g h : Ef}
end
end DL
namespace DL
open PySem L2 PySem.Spec
section
variable {ι : Type} {Xf : ι → Cx} {P : Program} {w : World} {K : PySem.W.Frag} {mg : Str → Option Value} {base : Heap} {n : Nat} [F : Fam Xf P w K mg base n]
variable {M : Mk} {m m1 m2 m3 : List Ty} {pos p p2 spos pos' apos cpos xp : Pos} {a b c : Expr} {f g h : Ef}
def gTOne (k v : PyData) : Option PyData := match k with
  | .tuple xs => (intsOf xs).bind fun is => some (.dict [(.tuple (is.map .int), v)])
  | _ => none
def eTOne (f g : Ef) : Ef := fun e => (f e).bind fun p => (g p.2).bind fun q => (gTOne p.1 q.1).bind fun d => some (d, q.2)
def eTInE (ng : Bool) (f g : Ef) : Ef := fun e => (f e).bind fun p => (g p.2).bind fun q => (gTIn ng q.1 p.1).bind fun d => some (d, q.2)
end
end DL
namespace DL
open PySem L2 PySem.Spec
section
variable {K : PySem.W.Frag} {G H : Hp}
end
section
variable {ι : Type} {Xf : ι → Cx} {P : Program} {w : World} {K : PySem.W.Frag} {mg : Str → Option Value} {base : Heap} {n : Nat} [F : Fam Xf P w K mg base n]
variable {m m1 : List Ty} {pos pos2 p p2 : Pos} {a : Expr} {f : Ef}
end
end DL
namespace DL
open PySem L2 PySem.Spec
section
variable {P : Program} {w : World} {A : Around} {E : Value → Shared → Prop} {s : Shared} {a : Addr} {S : Int → Bool} {n : Nat}
end
end DL
namespace DL
open PySem L2 PySem.Spec
section
variable {P : Program} {w : World} {A : Around} {E : Value → Shared → Prop} {s : Shared} {a b : Addr} {S T : Int → Bool} {n m : Nat}
def flipV (a : Addr) (h : Int) (x : Value) : Sem Unit := holding [x] do
  if !(← setDiscardHashed a x h) then
    let _ ← setAddHashed a x h
end
end DL
namespace DL
open PySem L2 PySem.Spec
section
variable {P : Program} {w : World} {A : Around} {E : Value → Shared → Prop} {s : Shared} {a o : Addr} {S T : Int → Bool} {n m : Nat}
def flips (id : String) (a o : Addr) (was : Nat) (ys : Array (Int × Value)) : Sem Unit := do
  for (h, x) in ys do
    flipV a h x
    Builtin.Frozenset.unchanged id o was
end
end DL
namespace DL
open PySem L2 PySem.Spec
structure Sits (m n : Nat) (owner : Array (Option Nat)) : Prop where
  sz : owner.size = m + 1
  all : ∀ k, k < n → ∃ j, j ≤ m ∧ oAt owner j = some k
  few : ∃ ps : List Nat, ps.length = n ∧ ∀ j, j ≤ m → oAt owner j ≠ none → j ∈ ps
end DL
namespace DL
open PySem L2 PySem.Spec
section
variable {P : Program} {w : World} {A : Around} {E : Value → Shared → Prop} {s : Shared} {a o : Addr} {S T : Int → Bool} {n m : Nat}
def Bare (w : World) (h : Heap) (a : Addr) (M : Nat) : Prop :=
  ∃ ob ep t, h.get? a = some ob ∧ ob.ExactSet ∧ ob.data = .set #[] ep t ∧ t.place = #[] ∧ t.dummies = #[] ∧ t.mask = M ∧ (w.params.followText "set-order" = true ∨ t.led = true)
theorem Bare.setR {M : Nat} (B : Bare w s.heap a M) (hT : ∀ k, T k = false) : SetR w s.heap a T 0 := by
  obtain ⟨ob, ep, t, ho, hex, hd, hp, hdm, hM, hl⟩ := B
  refine ⟨ob, #[], ep, t, ho, hex, hd, fun e he => by simp at he, by simp, fun k => by rw [hT k]; simp, by decide, ?_, rfl, ?_, hl⟩
  · unfold SetTable.fits SetTable.fill
    rw [hp, hdm]
    simp
  · rw [hp]; exact List.Pairwise.nil
end
end DL
namespace DL
open PySem L2 PySem.Spec
section
variable {P : Program} {w : World} {A : Around} {E : Value → Shared → Prop} {s : Shared} {a o : Addr} {S T : Int → Bool} {n m : Nat}
end
end DL
namespace DL
open PySem L2 PySem.Spec
section
variable {P : Program} {w : World} {A : Around} {E : Value → Shared → Prop} {s : Shared} {a o l r : Addr} {S T : Int → Bool} {n m : Nat}
end
end DL
namespace DL
open PySem L2 PySem.Spec PyProof.Rows
section
variable {ι : Type} {Xf : ι → Cx} {P : Program} {w : World} {K : PySem.W.Frag} {mg : Str → Option Value} {base : Heap} {n : Nat} [F : Fam Xf P w K mg base n]
variable {m m1 m2 : List Ty} {pos p pos2 p2 pos3 p3 pos4 : Pos} {a b : Expr} {f g : Ef}
end
end DL
namespace DL
open PySem L2 PySem.Spec PyProof.Rows
def gRv : PyData → Option (List PyData)
  | .list ds => some ds.reverse
  | _ => none
def iRv (f : Ef) : Lf := fun e => (f e).bind fun p => (gRv p.1).bind fun ds => some (ds, p.2)
@[simp] theorem riRv {f : Ef} {e : En} : iRv f e = (f e).bind fun p => (gRv p.1).bind fun ds => some (ds, p.2) := rfl
section
variable {ι : Type} {Xf : ι → Cx} {P : Program} {w : World} {K : PySem.W.Frag} {mg : Str → Option Value} {base : Heap} {n : Nat} [F : Fam Xf P w K mg base n]
variable {m m1 : List Ty} {pos p : Pos} {a tg : Expr} {f : Ef}
end
end DL
namespace DL
open PySem L2 PySem.Spec PyProof.Rows
def rngDn (hi : Int) (n : Nat) : List PyData := (List.range n).map fun i => .int (hi - (i : Nat))
def rng3 : PyData → PyData → PyData → Option (List PyData)
  | .int i, .int j, .int c => if (i - j).toNat ≤ sizeLine ∧ -(2 ^ 62) ≤ i ∧ i < 2 ^ 62 ∧ -(2 ^ 62) ≤ j ∧ j < 2 ^ 62 ∧ c = -1 then some (rngDn i (i - j).toNat) else none
  | _, _, _ => none
def iR3 (f g h : Ef) : Lf := fun e => (f e).bind fun p => (g p.2).bind fun q => (h q.2).bind fun r => (rng3 p.1 q.1 r.1).bind fun ds => some (ds, r.2)
@[simp] theorem riR3 {f g h : Ef} {e : En} : iR3 f g h e = (f e).bind fun p => (g p.2).bind fun q => (h q.2).bind fun r => (rng3 p.1 q.1 r.1).bind fun ds => some (ds, r.2) := rfl
section
variable {ι : Type} {Xf : ι → Cx} {P : Program} {w : World} {K : PySem.W.Frag} {mg : Str → Option Value} {base : Heap} {n : Nat} [F : Fam Xf P w K mg base n]
variable {m m1 m2 m3 : List Ty} {pos p : Pos} {a b c tg : Expr} {f g h : Ef}
end
end DL
namespace DL
open PySem L2 PySem.Spec
section
variable {K : PySem.W.Frag} {m m1 : List Ty} {M : Mk} {lf : Lf}
end
section
variable {ι : Type} {Xf : ι → Cx} {P : Program} {w : World} {K : PySem.W.Frag} {mg : Str → Option Value} {base : Heap} {n : Nat} [F : Fam Xf P w K mg base n]
variable {M : Mk} {m m1 m2 : List Ty} {pos p p2 apos cpos xp : Pos} {a b c : Expr} {f g h : Ef} {lf : Lf} {t1 t2 t3 : Ty}
end
end DL
namespace DL
open PySem PySem.Spec L2
section
variable {ι : Type} {Xf : ι → Cx} {P : Program} {w : World} {K : PySem.W.Frag} {mg : Str → Option Value} {base : Heap} {n : Nat} [F : Fam Xf P w K mg base n]
variable {m m1 : List Ty} {a : Expr} {ef : Ef} {k : Nat} {p1 p2 p3 pos : Pos}
end
end DL
namespace DL
open PySem PySem.Spec L2
section
variable {K : PySem.W.Frag} {m : List Ty} {g : Gq} {pt : Pf} {t : Ty} {ts : List Ty} {ns : List Str} {C : Addr} {f : Str} {k : Nat}
end
section
variable {ι : Type} {Xf : ι → Cx} {P : Program} {w : World} {K : PySem.W.Frag} {mg : Str → Option Value} {base : Heap} {n : Nat} [F : Fam Xf P w K mg base n]
variable {m : List Ty} {pos : Pos} {a : Expr} {g : Gq} {pt : Pf} {t : Ty} {ts : List Ty} {ns : List Str} {C : Addr} {f : Str}
end
end DL
namespace DL
open PySem PySem.Spec L2
section
variable {K : PySem.W.Frag} {m m1 : List Ty} {g : Gq} {pt : Pf} {t : Ty} {ts : List Ty} {ns : List Str} {C : Addr} {f : Str} {k : Nat} {M : Mk}
end
section
variable {ι : Type} {Xf : ι → Cx} {P : Program} {w : World} {K : PySem.W.Frag} {mg : Str → Option Value} {base : Heap} {n : Nat} [F : Fam Xf P w K mg base n]
variable {M : Mk} {m m1 : List Ty} {pos spos : Pos} {o v : Expr} {g : Gq} {pt : Pf} {t : Ty} {ts : List Ty} {ns : List Str} {C : Addr} {f : Str} {ef : Ef}
end
end DL
namespace DL
open PySem PySem.Spec L2
def sNewF (j : Nat) (f : Ef) : Sf := fun e => (f e).bind fun p => match p.2.getD j .none with
  | .list ds => some (.nx, p.2.set j (.list (ds ++ [p.1])))
  | _ => none
section
variable {K : PySem.W.Frag} {m m1 : List Ty} {t : Ty} {ts : List Ty} {ns : List Str} {C : Addr} {f : Str} {M : Mk}
end
section
variable {ι : Type} {Xf : ι → Cx} {P : Program} {w : World} {K : PySem.W.Frag} {mg : Str → Option Value} {base : Heap} {n : Nat} [F : Fam Xf P w K mg base n]
variable {M : Mk} {m m1 : List Ty} {pos spos xp : Pos} {v : Expr} {t : Ty} {ts : List Ty} {ns : List Str} {C : Addr} {f : Str} {ef : Ef}
end
end DL
namespace DL
open PySem PySem.Spec L2
section
variable {K : PySem.W.Frag} {m m1 m2 : List Ty} {fr : Lf} {tys : List Ty} {L : List (Option Nat)}
end
structure CalM (P : Program) (w : World) (K : PySem.W.Frag) (mg : Str → Option Value) (base : Heap) (k : Nat) (C : Addr) (x : Str) (ptys : List Ty) (rty : Ty) (Fn : DFn) : Prop where
  ex : ∃ (f : Addr) (fd : FuncData) (ps : List Str), FnG P w K mg base k f fd ps (spD K ptys rty Fn) ∧ Meth K C x f ∧ Binds K fd ps []
section
variable {K : PySem.W.Frag} {m m1 : List Ty} {rty : Ty} {ts : List Ty} {ns : List Str} {C : Addr} {x : Str} {ef : Ef} {sp : Sp} {tl : TA} {j : Nat}
end
section
variable {ι : Type} {Xf : ι → Cx} {P : Program} {w : World} {K : PySem.W.Frag} {mg : Str → Option Value} {base : Heap} {n : Nat} [F : Fam Xf P w K mg base n] [FG : FamG Xf]
variable {m m1 : List Ty} {pos apos xp : Pos} {a : Expr} {es : List Expr} {fr : Lf} {tys : List Ty} {L : List (Option Nat)} {C : Addr} {ns : List Str} {ts : List Ty}
end
end DL
namespace DL
open PySem PySem.Spec L2
section
variable {ι : Type} {Xf : ι → Cx} {P : Program} {w : World} {K : PySem.W.Frag} {mg : Str → Option Value} {base : Heap} {n : Nat} [F : Fam Xf P w K mg base n] [FG : FamG Xf]
variable {m m1 : List Ty} {pos apos xp : Pos} {a : Expr} {es : List Expr} {fr : Lf} {tys : List Ty} {L : List (Option Nat)} {C : Addr} {ns : List Str} {ts : List Ty}
end
end DL
namespace DL
open PySem PySem.Spec L2
def spI (K : PySem.W.Frag) (pty pty' : Ty) (ptys : List Ty) (Fn : DFn) : Sp := fun vs H Q _ =>
  ∃ (d0 : PyData) (ds : List PyData) (fs : List PyData) (G : Hp) (A : List Addr), Fn (d0 :: ds) = some (.none, fs) ∧ OwnA K G H (pty :: ptys) (d0 :: ds) (vs.map some) A ∧ A.Nodup ∧ Same G H ∧
    ∀ (G' H' : Hp) (v : V) (A' : List Addr), Step A G H A' G' H' → OwnA K G' H' (pty' :: ptys) fs (vs.map some) A' → A'.Nodup → Same G' H' → v = .non → Q v H'
structure CalI (P : Program) (w : World) (K : PySem.W.Frag) (mg : Str → Option Value) (base : Heap) (k : Nat) (C : Addr) (x : Str) (ns : List Str) (ts ptys : List Ty) (Fn : DFn) : Prop where
  ex : ∃ (f : Addr) (fd : FuncData) (ps : List Str), FnG P w K mg base k f fd ps (spI K (.o C [] []) (.o C ns ts) ptys Fn) ∧ L2.Mk K C f ∧ mg x = some (.ref C) ∧ Binds K fd ps []
section
variable {ι : Type} {Xf : ι → Cx} {P : Program} {w : World} {K : PySem.W.Frag} {mg : Str → Option Value} {base : Heap} {n : Nat} [F : Fam Xf P w K mg base n] [FG : FamG Xf]
variable {m m1 : List Ty} {pos p : Pos} {a : Expr} {es : List Expr} {fr : Lf} {tys : List Ty} {L : List (Option Nat)} {C : Addr} {ns : List Str} {ts : List Ty}
end
end DL
namespace DL
open PySem PySem.Spec L2
def eMake (Fn : DFn) (r : Lf) : Ef := fun e => (r e).bind fun p => (Fn (.list [] :: p.1)).bind fun q => match q with
  | (.none, f0 :: _) => some (f0, p.2)
  | _ => none
section
variable {K : PySem.W.Frag} {m m1 : List Ty} {fr : Lf} {tys : List Ty} {L : List (Option Nat)} {C : Addr} {ns : List Str} {ts : List Ty} {Fn : DFn}
end
section
variable {ι : Type} {Xf : ι → Cx} {P : Program} {w : World} {K : PySem.W.Frag} {mg : Str → Option Value} {base : Heap} {n : Nat} [F : Fam Xf P w K mg base n] [FG : FamG Xf]
variable {m m1 : List Ty} {pos p : Pos} {a : Expr} {es : List Expr} {fr : Lf} {tys : List Ty} {L : List (Option Nat)} {C : Addr} {ns : List Str} {ts : List Ty}
end
end DL
namespace DL
open PySem PySem.Spec L2
end DL
namespace DL
open PySem PySem.Spec L2
def flatN : Nat → PyData → Bool
  | 0, d => sc1 d
  | n + 1, .tuple xs => xs.all (flatN n)
  | _ + 1, d => sc1 d
def flatR : Ty → PyData → Bool
  | .s, d => flatN 3 d
  | .d, .dict kvs => kvs.all fun p => sc1 p.2
  | _, _ => false
def borF (rty : Ty) (Fn : DFn) : DFn := fun ds => (Fn ds).bind fun p => (grd (flatR rty p.1)).bind fun _ => some (p.1, ds)
section
variable {K : PySem.W.Frag} {G G' H : Hp}
end
section
variable {P : Program} {w : World} {K : PySem.W.Frag} {mg : Str → Option Value} {base : Heap} {k : Nat} {f : Addr} {fd : FuncData} {ps : List Str} {C : Addr} {ns : List Str} {ts tys : List Ty} {rty : Ty} {Fn : DFn}
end
end DL
namespace DL
open PySem PySem.Spec L2
section
variable {K : PySem.W.Frag} {G H : Hp} {ts : List Ty} {ns : List Str} {f : Str} {k : Nat} {t : Ty} {fs : List (Str × V)} {ds : List PyData} {A1 : List Addr} {d : PyData}
end
section
variable {K : PySem.W.Frag} {m : List Ty} {g : Gq} {pt : Pf} {t : Ty} {ts : List Ty} {ns : List Str} {C : Addr} {f : Str} {k j : Nat}
end
section
variable {ι : Type} {Xf : ι → Cx} {P : Program} {w : World} {K : PySem.W.Frag} {mg : Str → Option Value} {base : Heap} {n : Nat} [F : Fam Xf P w K mg base n]
variable {m : List Ty} {pos p : Pos} {a : Expr} {g : Gq} {pt : Pf} {t : Ty} {ts : List Ty} {ns : List Str} {C : Addr} {f : Str}
end
section
variable {ι : Type} {Xf : ι → Cx} {P : Program} {w : World} {K : PySem.W.Frag} {mg : Str → Option Value} {base : Heap} {n : Nat} [F : Fam Xf P w K mg base n] [FG : FamG Xf]
variable {m m1 : List Ty} {pos apos xp : Pos} {a : Expr} {es : List Expr} {fr : Lf} {tys : List Ty} {L : List (Option Nat)} {C : Addr} {ns : List Str}
end
end DL
namespace DL
open PySem PySem.Spec L2
def gAppF (k : Nat) : PyData → PyData → Option PyData
  | .list ds, x => match ds[k]? with
    | some (.list xs) => if xs.length < sizeLine then some (.list (ds.set k (.list (xs ++ [x])))) else none
    | _ => none
  | _, _ => none
def eAppF (j k : Nat) (f : Ef) : Ef := fun e => (f e).bind fun p => (gAppF k (e.getD j .none) p.1).bind fun d => some (.none, p.2.set j d)
section
variable {K : PySem.W.Frag} {m m1 : List Ty} {t : Ty} {ts : List Ty} {ns : List Str} {C : Addr} {fl : Str} {k j : Nat} {f : Ef}
end
section
variable {ι : Type} {Xf : ι → Cx} {P : Program} {w : World} {K : PySem.W.Frag} {mg : Str → Option Value} {base : Heap} {n : Nat} [F : Fam Xf P w K mg base n]
variable {m m1 : List Ty} {pos xp fpos apos cpos : Pos} {v : Expr} {f : Ef} {ts : List Ty} {ns : List Str} {C : Addr} {fl : Str}
end
end DL
namespace DL
open PySem PySem.Spec L2
theorem fins_stb : ∀ {ptys ptys0 : List Ty}, ptys.map stb = ptys0.map stb → ∀ ds es, fins ptys ds es = fins ptys0 ds es
  | [], [], _, ds, es => rfl
  | [], _ :: _, h, _, _ => by cases h
  | _ :: _, [], h, _, _ => by cases h
  | t :: ts, u :: us, h, ds, es => by
    have h1 : stb t = stb u := (List.cons.inj h).1
    cases ds with
    | nil => rfl
    | cons d ds =>
      cases es with
      | nil => rfl
      | cons e es =>
        show (if stb t = true then d else e) :: fins ts ds es = (if stb u = true then d else e) :: fins us ds es
        rw [h1, fins_stb (List.cons.inj h).2 ds es]
theorem runF_stb {sf : Sf} {ptys ptys0 : List Ty} {r : Nat} (h : ptys.map stb = ptys0.map stb) : runF sf ptys r = runF sf ptys0 r := by
  funext ds
  unfold runF
  have e : fins ptys ds = fins ptys0 ds := funext fun es => fins_stb h ds es
  rw [e]
theorem fnG_dlO {P : Program} {w : World} {K : PySem.W.Frag} {mg : Str → Option Value} {base : Heap} {x qual : Str} {st : Stmt} {f : Addr} {fd : FuncData} {N ps : List Str} {k : Nat} {ptys ptys0 : List Ty} {rty : Ty} {sf : Sf} {mr : List Ty} {po : List Nat} {r : Nat}
    (F : L2.Fun K x qual st f fd) (S : FnScope N ps (defScope st)) (hl : ptys.length = ps.length) (hr : N.length = ps.length + r) (fo : FinOk po 0 ptys mr) (hty : rty = .s ∨ ∀ e e', sf e ≠ some (.nx, e'))
    (hbody : ∀ (cdv : Value) (A : Around) (outer : List Env) (s : Shared) (H : Hp) (E : XK), Fam (oneX (cxOf CX0 P w K mg base N qual (defScope st) f cdv A outer s H E).nox) P w K mg base k → FamG (oneX (cxOf CX0 P w K mg base N qual (defScope st) f cdv A outer s H E).nox) → FamN (oneX (cxOf CX0 P w K mg base N qual (defScope st) f cdv A outer s H E).nox) →
      PSsd (oneX (cxOf CX0 P w K mg base N qual (defScope st) f cdv A outer s H E).nox) K ⟨[], [], mr, po, rty⟩ (ptys ++ List.replicate r .u) (defBody st) sf mr) (hq : ptys.map stb = ptys0.map stb := by rfl) : FnG P w K mg base (k + 1) f fd ps (spD K ptys rty (runF sf ptys0 r)) := by
  rw [← runF_stb hq]
  exact fnG_dl F S hl hr fo hty hbody
end DL
namespace DL
open PySem PySem.Spec L2 PyProof.Rows
theorem k2 {K : PySem.W.Frag} {t : String} {a b : Bool} (h1 : kitB t "tuple" = some a) (h2 : kitB t "list" = some b) : PySem.W.kitAny K (.type t) [.type "tuple", .type "list"] = some (a || b) := by
  refine kitAny_cons (kit_ty h1) (fun z => ?_) fun z => by rw [z]; rfl
  rw [z]
  exact kitAny_cons (kit_ty h2) (fun z => by rw [z]; exact kitAny_nil) fun z => by rw [z]; rfl
section
variable {ι : Type} {Xf : ι → Cx} {P : Program} {w : World} {K : PySem.W.Frag} {mg : Str → Option Value} {base : Heap} {n : Nat} [F : Fam Xf P w K mg base n]
variable {m m1 : List Ty} {pos p p2 p3 p4 : Pos} {a : Expr} {f : Ef} {k1 : Nat}
end
end DL
namespace DL
open PySem PySem.Spec L2 PyProof.Rows
def IsTupN (h : Heap) (t : Addr) (its : Array Value) : Prop := ∃ o, h.get? t = some o ∧ o.cls = .type "tuple" ∧ o.dict = none ∧ ∃ n, o.data = .seq its n
theorem IsTupN.tup {h : Heap} {t : Addr} {its : Array Value} (e : IsTupN h t its) : IsTup h t its := by
  obtain ⟨o, h1, h2, _, h3⟩ := e
  exact ⟨o, h1, h2, h3⟩
section
variable {P : Program} {w : World} {A : Around} {E : Value → Shared → Prop} {u : Shared}
end
section
variable {P : Program} {w : World} {A : Around} {R : Result → Shared → Prop} {I : Addr} {fp wr : List Addr} {G : Array GenState → Array GenState → Prop} {n : Nat} {Pd : Nat → Value → Prop} {St : Nat → Shared → Prop}
end
section
variable {X : Cx}
end
end DL
namespace DL
open PySem PySem.Spec L2 PyProof.Rows
section
variable {ι : Type} {Xf : ι → Cx} {P : Program} {w : World} {K : PySem.W.Frag} {mg : Str → Option Value} {base : Heap} {n : Nat} [Fm : Fam Xf P w K mg base n] [FG : FamG Xf]
end
end DL
namespace DL
open PySem PySem.Spec L2
def gKeys : PyData → Option (List PyData)
  | .dict kvs => some (kvs.map (·.1))
  | _ => none
def iKy (j : Nat) : Lf := fun e => (gKeys (e.getD j .none)).bind fun ds => some (ds, e)
@[simp] theorem riKy {j : Nat} {e : En} : iKy j e = (gKeys (e.getD j .none)).bind fun ds => some (ds, e) := rfl
section
variable {K : PySem.W.Frag} {G H H' : Hp} {a : Addr} {o : Obj} {kvs : List (Int × V)}
end
section
variable {K : PySem.W.Frag} {m mn : List Ty} {M : Mk} {j : Nat}
end
section
variable {ι : Type} {Xf : ι → Cx} {P : Program} {w : World} {K : PySem.W.Frag} {mg : Str → Option Value} {base : Heap} {n : Nat} [F : Fam Xf P w K mg base n]
variable {m m1 mn : List Ty} {M : Mk}
end
section
variable {K : PySem.W.Frag} {G H G1 H1 : Hp} {m m1 m2 : List Ty} {σ : St} {e : En} {A A1 : List Addr} {a : Addr} {o : Obj} {kvs : List (Int × V)}
end
section
variable {ι : Type} {Xf : ι → Cx} {P : Program} {w : World} {K : PySem.W.Frag} {mg : Str → Option Value} {base : Heap} {n : Nat} [F : Fam Xf P w K mg base n]
variable {m m1 m2 : List Ty} {ad : Addr} {ob : Obj} {kvs : List (Int × V)} {pos p xp : Pos} {a b tg : Expr} {f g : Ef}
end
end DL
namespace PySem.AutoSeq1
end PySem.AutoSeq1
namespace DL
open PySem PySem.Spec L2
def gExtT (l x : PyData) : Option PyData := match l, x with
  | .list ds, .tuple es => if ds.length + es.length ≤ sizeLine then some (.list (ds ++ es)) else none
  | _, _ => none
def eExtT (j : Nat) (f : Ef) : Ef := fun e => (f e).bind fun p => (gExtT (p.2.getD j .none) p.1).bind fun l => some (.none, p.2.set j l)
@[simp] theorem rExtT {j : Nat} {f : Ef} {e : En} : eExtT j f e = (f e).bind fun p => (gExtT (p.2.getD j .none) p.1).bind fun l => some (.none, p.2.set j l) := rfl
section
variable {K : PySem.W.Frag} {m m1 : List Ty} {f : Ef}
end
section
variable {ι : Type} {Xf : ι → Cx} {P : Program} {w : World} {K : PySem.W.Frag} {mg : Str → Option Value} {base : Heap} {n : Nat} [F : Fam Xf P w K mg base n]
variable {m m1 : List Ty} {apos cpos xp : Pos} {v : Expr} {f : Ef}
end
end DL
namespace DL
open PySem PySem.Spec L2
section
variable {K : PySem.W.Frag} {G H : Hp} {m m1 m2 : List Ty} {f g : Ef} {t : Ty}
theorem ownA_app : ∀ {ts : List Ty} {ds : List PyData} {vs : List (Option V)} {A : List Addr} {ts' : List Ty} {ds' : List PyData} {vs' : List (Option V)} {B : List Addr}, OwnA K G H ts ds vs A → OwnA K G H ts' ds' vs' B → OwnA K G H (ts ++ ts') (ds ++ ds') (vs ++ vs') (A ++ B)
  | [], _, _, _, _, _, _, _, h, h' => by cases h; exact h'
  | t :: ts, _, _, _, _, _, _, B, h, h' => by
    cases h with
    | @cons _ _ _ _ _ _ A1 A2 h1 h2 =>
      rw [List.append_assoc]
      exact .cons h1 (ownA_app h2 h')
theorem DE.catO {ta tb : TE} (ha : DE K m ta (.l t) f m1) (hb : DE K m1 tb (.l t) g m2) : DE K m (tOp rCatR ta tb) (.l t) (e2 gAddL f g) m2 := by
  intro G H σ e A d e' Q st hf k
  unfold e2 at hf
  obtain ⟨⟨d1, e1⟩, hf1, hf⟩ := oBs hf
  obtain ⟨⟨d2, e2⟩, hf2, hf⟩ := oBs hf
  obtain ⟨d3, hf3, hf⟩ := oBs hf
  cases hf
  refine ha st hf1 fun G1 H1 x Av A1 s1 st1 o1 nd1 => ?_
  refine hb st1 hf2 fun G2 H2 y Bv A2 s2 st2 o2 nd2 => ?_
  obtain ⟨s3, nd3, gn, hn⟩ := s1.seq (own_at o1) nd1 s2 nd2
  have o1 := own_fr o1 s2.sg gn hn
  cases o1 with
  | @l _ a vs ds Aa ga ha1 hz1 oa =>
    cases o2 with
    | @l _ b ws es Ab gb hb1 hz2 ob =>
      obtain ⟨hlen, hf3⟩ := ite_some (show (if ds.length + es.length ≤ sizeLine then some (PyData.list (ds ++ es)) else none) = some _ from hf3)
      cases hf3
      have la := (ownA_len oa).2
      have lb := (ownA_len ob).2
      rw [List.length_map] at la lb
      refine ⟨a, b, vs, ws, rfl, rfl, .inl ha1, .inl hb1, by omega, fun p hp => ?_⟩
      obtain ⟨_, st4, nd4, gp⟩ := new_o (B := []) (o := .lst (vs ++ ws)) st2 hp
      have fa : ∀ {ts : List Ty} {ds : List PyData} {us : List (Option V)} {B : List Addr}, OwnA K G2 H2 ts ds us B → OwnA K G2 (upd H2 p (.lst (vs ++ ws))) ts ds us B ∧ p ∉ B := fun {ts ds us B} h => by
        have np : ∀ c ∈ B, c ≠ p := fun c hc q => by
          obtain ⟨_, o, e⟩ := ownA_at h c hc
          rw [q, hp] at e; cases e
        exact ⟨ownA_fr h (Same.refl G2) (fun c hc => (ownA_at h c hc).1) (fun c hc => upd_ne (np c hc)), fun hc => np p hc rfl⟩
      obtain ⟨oa', pa⟩ := fa oa
      obtain ⟨ob', pb⟩ := fa ob
      have own : Own K G2 (upd H2 p (.lst (vs ++ ws))) (.l t) (.list (ds ++ es)) (some (.ref p)) (p :: (Aa ++ Ab)) := by
        refine .l gp upd_same (by rw [List.length_append]; omega) ?_
        rw [List.length_append, ← List.replicate_append_replicate, List.map_append]
        exact ownA_app oa' ob'
      have inB : ∀ c, c ∈ (Aa ++ Ab) ++ A2 → c ∈ (a :: Aa) ++ ((b :: Ab) ++ A2) := fun c hc => by
        rcases List.mem_append.mp hc with h | h
        · rcases List.mem_append.mp h with h | h
          · exact List.mem_append_left _ (List.mem_cons_of_mem _ h)
          · exact List.mem_append_right _ (List.mem_append_left _ (List.mem_cons_of_mem _ h))
        · exact List.mem_append_right _ (List.mem_append_right _ h)
      have nn : ((p :: (Aa ++ Ab)) ++ A2).Nodup := by
        have sub : ((Aa ++ Ab) ++ A2).Nodup := by
          rw [List.append_assoc]
          exact nd3.sublist ((List.sublist_cons_self a Aa).append ((List.sublist_cons_self b Ab).append (List.Sublist.refl A2)))
        rw [List.cons_append]
        refine List.nodup_cons.mpr ⟨fun h => ?_, sub⟩
        rcases List.mem_append.mp h with h | h
        · rcases List.mem_append.mp h with h | h
          · exact pa h
          · exact pb h
        · exact (List.nodup_cons.mp nd4).1 h
      refine k G2 _ (.ref p) (p :: (Aa ++ Ab)) A2 ⟨s3.sg, fun c o hc hA => ?_, fun c hc => ?_, s3.gnew⟩ st4 own nn
      · have := s3.fr c o hc hA
        rw [upd_ne (fun q => by subst q; rw [hp] at this; cases this)]
        exact this
      · rw [List.cons_append] at hc
        rcases List.mem_cons.mp hc with rfl | hc
        · exact s3.back hp
        · exact s3.own c (inB c hc)
end
section
variable {ι : Type} {Xf : ι → Cx} {P : Program} {w : World} {K : PySem.W.Frag} {mg : Str → Option Value} {base : Heap} {n : Nat} [F : Fam Xf P w K mg base n]
variable {m m1 m2 : List Ty} {pos : Pos} {a b : Expr} {f g : Ef} {t : Ty}
theorem pd_catO (ha : PD Xf K m a (.l t) f m1) (hb : PD Xf K m1 b (.l t) g m2) : PD Xf K m (.BinOp a .Add b pos) (.l t) (e2 gAddL f g) m2 := by
  obtain ⟨ta, pa, da⟩ := ha.ex
  obtain ⟨tb, pb, db⟩ := hb.ex
  exact ⟨_, fun i => pe_op op_catR (pa i) (pb i), DE.catO da db⟩
end
end DL
namespace DL
open PySem L2 PySem.Spec
def sPar4 (i j l q : Nat) (f : Lf) : Sf := fun e => (f e).bind fun p => match p.1 with
  | [x, y, z, w] => some (.nx, (((p.2.set i x).set j y).set l z).set q w)
  | _ => none
def four {α : Type} (l : List PyData) (k : PyData → PyData → PyData → PyData → Option α) : Option α := match l with
  | [x, y, z, w] => k x y z w
  | _ => none
@[simp] theorem four_ok {α : Type} {x y z w : PyData} {k : PyData → PyData → PyData → PyData → Option α} : four [x, y, z, w] k = k x y z w := rfl
@[simp] theorem rsPar4 {i j l q : Nat} {fr : Lf} {e : En} : sPar4 i j l q fr e = (fr e).bind fun p => four p.1 fun x y z w => some (.nx, (((p.2.set i x).set j y).set l z).set q w) := rfl
section
variable {K : PySem.W.Frag} {m m1 : List Ty} {M : Mk} {lf : Lf}
end
section
variable {ι : Type} {Xf : ι → Cx} {P : Program} {w : World} {K : PySem.W.Frag} {mg : Str → Option Value} {base : Heap} {n : Nat} [F : Fam Xf P w K mg base n]
variable {M : Mk} {m m1 m2 : List Ty} {pos : Pos} {a b c d : Expr} {lf : Lf} {t1 t2 t3 t4 : Ty}
end
end DL
namespace DL
open PySem L2 PySem.Spec
def gDLen (d : PyData) : Option PyData := match d with
  | .dict kvs => some (.int kvs.length)
  | _ => none
def eDLen (j : Nat) : Ef := fun e => (gDLen (e.getD j .none)).map fun d => (d, e)
@[simp] theorem rDLen {j : Nat} {e : En} : eDLen j e = (gDLen (e.getD j .none)).bind fun d => some (d, e) := by unfold eDLen; cases gDLen (e.getD j .none) <;> rfl
section
variable {ι : Type} {Xf : ι → Cx} {P : Program} {w : World} {K : PySem.W.Frag} {mg : Str → Option Value} {base : Heap} {n : Nat} [F : Fam Xf P w K mg base n]
variable {m m1 : List Ty} {pos p p2 : Pos}
end
section
variable {K : PySem.W.Frag} {m m1 : List Ty} {M : Mk} {lf : Lf}
end
section
variable {ι : Type} {Xf : ι → Cx} {P : Program} {w : World} {K : PySem.W.Frag} {mg : Str → Option Value} {base : Heap} {n : Nat} [F : Fam Xf P w K mg base n]
variable {M : Mk} {m m1 m2 : List Ty} {pos p p2 apos cpos xp : Pos} {a b c : Expr} {f g h : Ef} {lf : Lf} {t1 t2 t3 : Ty}
end
end DL
namespace DL
open PySem L2 PySem.Spec
def gUpdL (d s : PyData) : Option PyData := match d, s with
  | .dict kvs, .list xs => (dictI kvs).bind fun ds => (intsOf xs).bind fun is => if kvs.length + is.length < 100000 then some (.dict ((joinI (yesI is (.bool true)) ds).map kvD)) else none
  | _, _ => none
def eUpdL (j : Nat) (f : Ef) : Ef := fun e => (f e).bind fun p => (gUpdL (p.2.getD j .none) p.1).bind fun d => some (.none, p.2.set j d)
@[simp] theorem rUpdL {j : Nat} {f : Ef} {e : En} : eUpdL j f e = (f e).bind fun p => (gUpdL (p.2.getD j .none) p.1).bind fun d => some (.none, p.2.set j d) := rfl
section
variable {K : PySem.W.Frag} {G H G1 H1 : Hp} {m m1 m2 mn : List Ty} {σ : St} {e : En} {A A1 : List Addr} {t : Ty} {ts : List Ty}
end
section
variable {ι : Type} {Xf : ι → Cx} {P : Program} {w : World} {K : PySem.W.Frag} {mg : Str → Option Value} {base : Heap} {n : Nat} [F : Fam Xf P w K mg base n]
variable {m m1 m2 m3 : List Ty} {pos p p2 apos cpos xp kp vp tp : Pos} {a b c e : Expr} {f g h : Ef} {scope : Scope} {jn : Option String}
end
end DL
namespace DL
open PySem L2 PySem.Spec
def un3L : PyData → Option (PyData × PyData × PyData)
  | .list [a, b, c] => some (a, b, c)
  | _ => none
def un4L : PyData → Option (PyData × PyData × PyData × PyData)
  | .list [a, b, c, d] => some (a, b, c, d)
  | _ => none
@[simp] theorem un3L_ok {x y z : PyData} : un3L (.list [x, y, z]) = some (x, y, z) := rfl
@[simp] theorem un4L_ok {x y z w : PyData} : un4L (.list [x, y, z, w]) = some (x, y, z, w) := rfl
@[simp] theorem rgTpL3 {gf gf2 gf3 : Gf} {d : PyData} {e : En} : gTpL 3 (gsCons gf (gsCons gf2 (gsCons gf3 gsNil))) d e = (un3L d).bind fun p => (gf p.1 e).bind fun e => (gf2 p.2.1 e).bind fun e => gf3 p.2.2 e := by
  unfold gTpL un3L
  cases d with
  | list ds =>
    match ds with
    | [] => rfl
    | [a] => rfl
    | [a, b] => rfl
    | [a, b, c] =>
      show ((gf a e).bind fun e' => (gf2 b e').bind fun e'' => (gf3 c e'').bind fun e''' => some e''') = _
      simp only [Option.bind_some]
      congr 1; funext e'; congr 1; funext e''; cases gf3 c e'' <;> rfl
    | a :: b :: c :: x :: r => show (if (a :: b :: c :: x :: r).length = 3 then _ else _) = _; rw [if_neg (by simp)]; rfl
  | _ => rfl
@[simp] theorem rgTpL4 {gf gf2 gf3 gf4 : Gf} {d : PyData} {e : En} : gTpL 4 (gsCons gf (gsCons gf2 (gsCons gf3 (gsCons gf4 gsNil)))) d e = (un4L d).bind fun p => (gf p.1 e).bind fun e => (gf2 p.2.1 e).bind fun e => (gf3 p.2.2.1 e).bind fun e => gf4 p.2.2.2 e := by
  unfold gTpL un4L
  cases d with
  | list ds =>
    match ds with
    | [] => rfl
    | [a] => rfl
    | [a, b] => rfl
    | [a, b, c] => rfl
    | [a, b, c, w] =>
      show ((gf a e).bind fun e' => (gf2 b e').bind fun e'' => (gf3 c e'').bind fun e3 => (gf4 w e3).bind fun e4 => some e4) = _
      simp only [Option.bind_some]
      congr 1; funext e'; congr 1; funext e''; congr 1; funext e3; cases gf4 w e3 <;> rfl
    | a :: b :: c :: w :: x :: r => show (if (a :: b :: c :: w :: x :: r).length = 4 then _ else _) = _; rw [if_neg (by simp)]; rfl
  | _ => rfl
end DL
namespace DL
open PySem L2 PySem.Spec
def eDGetP (g gi : Gq) : Ef := fun e => (g e).bind fun d => (gi e).bind fun i => (gDGet d i).bind fun x => some (x, e)
def eDInP (gg : PyData → PyData → Option PyData) (g gi : Gq) : Ef := fun e => (gi e).bind fun i => (g e).bind fun d => (gg d i).bind fun x => some (x, e)
def sDPutP (g : Gq) (pt : Pf) (gi : Gq) (f : Ef) : Sf := fun e => (f e).bind fun p => (g p.2).bind fun d => (gi p.2).bind fun i => (gDPut d i p.1).bind fun x => some (.nx, pt p.2 x)
@[simp] theorem rDGetP {g gi : Gq} {e : En} : eDGetP g gi e = (g e).bind fun d => (gi e).bind fun i => (gDGet d i).bind fun x => some (x, e) := rfl
@[simp] theorem rDInP {gg : PyData → PyData → Option PyData} {g gi : Gq} {e : En} : eDInP gg g gi e = (gi e).bind fun i => (g e).bind fun d => (gg d i).bind fun x => some (x, e) := rfl
@[simp] theorem rDPutP {g gi : Gq} {pt : Pf} {f : Ef} {e : En} : sDPutP g pt gi f e = (f e).bind fun p => (g p.2).bind fun d => (gi p.2).bind fun i => (gDPut d i p.1).bind fun x => some (.nx, pt p.2 x) := rfl
section
variable {K : PySem.W.Frag} {m m1 : List Ty} {g gi : Gq} {pt : Pf} {f : Ef}
end
section
variable {ι : Type} {Xf : ι → Cx} {P : Program} {w : World} {K : PySem.W.Frag} {mg : Str → Option Value} {base : Heap} {n : Nat} [F : Fam Xf P w K mg base n]
variable {m m1 m2 : List Ty} {pos p p2 pos' spos : Pos} {a b c : Expr} {g gi : Gq} {pt : Pf} {f : Ef} {M : Mk}
end
end DL
namespace DL
open PySem L2 PySem.Spec
section
variable {ι : Type} {Xf : ι → Cx} {P : Program} {w : World} {K : PySem.W.Frag} {mg : Str → Option Value} {base : Heap} {n : Nat} [F : Fam Xf P w K mg base n]
variable {M : Mk} {m mn : List Ty} {pos : Pos} {x : Str} {t : Ty} {v : V} {sts : List Stmt} {f : Sf}
end
def flatF : PyData → Bool
  | .dict kvs => kvs.all fun p => sc1 p.2
  | .list xs => xs.all sc1
  | d => sc1 d
def eThawO (i j : Nat) (f : Ef) : Ef := fun e => match e.getD i .none with
  | .list (_ :: ds) => (f (e.set i (.list (e.getD j .none :: ds)))).bind fun p => match p.2.getD i .none with
    | .list (_ :: es) => (grd (flat1 p.1 && es.all flatF)).bind fun _ => some (p.1, e.set i (.list (.none :: es)))
    | _ => none
  | _ => none
section
variable {K : PySem.W.Frag} {G G' H H' : Hp}
end
end DL
namespace DL
open PySem L2 PySem.Spec
abbrev leTail : List Value := [.type "LookupError", .type "Exception", .type "BaseException", .type "object"]
structure OexL (K : PySem.W.Frag) (C : Addr) : Prop where
  cls : ∃ nm q N bs sn sub ab col dd k0 k1 k2 k3 k5, K.lookup C = some (excClassObj nm q C N bs leTail true sn sub ab col dd k0 k1 k2 k3 k5 "LookupError.__new__")
  sa : PySem.W.findIn K (.ref C) "__setattr__" = some (some (.builtin "object.__setattr__"))
  exC : PySem.W.subIn K (.ref C) (.type "BaseException") = some true
  tyC : PySem.W.typeIn K (.ref C) = some (.type "type")
  kC : PySem.W.keepIn K (.ref C) = true
theorem OexL.over {K : PySem.W.Frag} {C : Addr} (T : OexL K C) : PySem.W.excOver K C leTail = true ∧ ∃ cd, PySem.W.clsIn K C = some cd ∧ cd.hasDict = true := by
  obtain ⟨nm, q, N, bs, sn, sub, ab, col, dd, k0, k1, k2, k3, k5, hC⟩ := T.cls
  have hcl : PySem.W.clsIn K C = some { name := nm, bases := bs, mro := .ref C :: leTail, ns := N, qualname := q, hasDict := true, slotNames := sn, subclasses := sub, abstract := ab, collection := col, hasDel := false } := by unfold PySem.W.clsIn; rw [hC] <;> rfl
  refine ⟨?_, _, hcl, rfl⟩
  unfold PySem.W.excOver
  rw [hcl]
  show (C == C && PySem.W.excTail leTail leTail) = true
  rw [beq_self_eq_true, Bool.true_and]
  decide +kernel
theorem taker0 {K : PySem.W.Frag} {C : Addr} {f : Str} (h : PySem.W.findIn K (.ref C) f = some none) : PySem.W.takerIn K C f = some none := by
  unfold PySem.W.takerIn; rw [h]; rfl
section
variable {X : Cx} {pins : List (Addr × Obj)} {σ : St} {H : Hp} {s : Shared} {a C dx : Addr} {f : Str} {y : V} {u : Value} {fs : List (Str × V)} {R : Unit → Shared → Prop} {E : Value → Shared → Prop} {Ar : Around}
theorem oexl_set0 (T : OexL X.K C) (I : L2.Inv X pins σ H s) (he : H a = some (exo a C none)) (nf : PySem.W.findIn X.K (.ref C) f = some none) (r : RelV y u)
    (go : ∀ dx s', H dx = none → dx ≠ a → L2.Inv X pins σ (upd (upd H dx (exd dx [(f, y)])) a (exo a C (some dx))) s' → R () s') : wpAny (model X.prog X.w) Ar (setAttr (.ref a) f u) R E s := by
  obtain ⟨ov, cd, hcd, hdict⟩ := T.over
  obtain ⟨t1, ho⟩ := exo_at I.hok he
  obtain ⟨hh, gg, dd, tt, oo⟩ := s
  have ho : hh.get? a = some (PySem.W.excObj C t1 none .none) := ho
  refine PySem.W.set_plain (od := none) I.kIn ⟨ho, rfl, rfl, trivial⟩ T.sa ?_
  refine PySem.W.osa_openX (od := none) PySem.F.store_LookupError I.kIn ⟨ho, rfl, rfl, trivial⟩ ov (taker0 nf) fun b => ?_
  refine wpAny_bind (wpAny_pure (wpAny_bind (PySem.W.instanceDict_exc ho (PySem.W.looks_clsIn I.kIn hcd) hdict ?_)))
  have sz : a ≠ hh.objs.size := Nat.ne_of_lt (Heap.lt_size ho)
  refine PySem.HandSPX.store_in_new ?_ fun h2 t2 hn hsame => ?_
  · exact ⟨_, #[], _, (Heap.get?_update_ne _ _ _ _ sz.symm).trans (Heap.get?_push_at rfl rfl), rfl, fun e z => absurd z (by simp), fun _ => rfl⟩
  · have gb : ∀ b o, b ≠ a → hh.get? b = some o → h2.get? b = some o := fun b o hb z =>
      (hsame.2 b (Nat.ne_of_lt (Heap.lt_size z))).trans ((Heap.get?_update_ne _ _ _ _ hb).trans (Heap.get?_push_of_some _ z))
    have ga : h2.get? a = some (PySem.W.excObj C t1 (some hh.objs.size) .none) := (hsame.2 a sz).trans (Heap.get?_update_self _ (Heap.get?_push_of_some _ ho) rfl)
    have old : (h2.update a fun _ => PySem.W.excObj C t1 none .none).get? a = some (PySem.W.excObj C t1 none .none) := Heap.get?_update_self _ ga rfl
    have other : ∀ b, b ≠ a → (h2.update a fun _ => PySem.W.excObj C t1 none .none).get? b = h2.get? b := fun b hb => Heap.get?_update_ne _ _ _ _ hb
    have dn : H hh.objs.size = none := I.hok.fresh (Nat.le_refl _)
    have J1 := I.laid (t' := t2) (a := hh.objs.size) (o := exd hh.objs.size [(f, y)]) (h' := h2.update a fun _ => PySem.W.excObj C t1 none .none)
      (fun b o z => by
        by_cases hb : b = a
        · subst hb; exact old.trans (ho.symm.trans z)
        · exact (other b hb).trans (gb b o hb z)) (Nat.le_refl _)
      (exd_ok (hn.at fun o z => (other _ sz.symm).trans z) (relO_put (fs := []) r fun _ => True.intro))
    have ea : upd H hh.objs.size (exd hh.objs.size [(f, y)]) a = some (exo a C none) := by rw [upd_ne sz]; exact he
    have J2 := J1.write (t' := t2) (x := a) (e := a) (o := exo a C (some hh.objs.size)) (h' := h2) (by rw [ea]; exact True.intro) (.inl rfl)
      (fun b o hb z => (other b hb).symm.trans z) ⟨_, ga⟩ (exo_ok ga)
    exact go _ _ dn sz.symm J2
theorem oexl_set1 (T : OexL X.K C) (I : L2.Inv X pins σ H s) (he : H a = some (exo a C (some dx))) (hd : H dx = some (exd dx fs)) (hl : fs.length ≤ 900) (nf : PySem.W.findIn X.K (.ref C) f = some none) (r : RelV y u)
    (go : ∀ s', L2.Inv X pins σ (upd H dx (exd dx ((f, y) :: fs))) s' → R () s') : wpAny (model X.prog X.w) Ar (setAttr (.ref a) f u) R E s := by
  obtain ⟨ov, cd, hcd, hdict⟩ := T.over
  obtain ⟨t1, ho⟩ := exo_at I.hok he
  obtain ⟨mA, hns, rel⟩ := exd_at I.hok hd
  have wi := within_of rel
  obtain ⟨hh, gg, dd, tt, oo⟩ := s
  have ho : hh.get? a = some (PySem.W.excObj C t1 (some dx) .none) := ho
  obtain ⟨oD, _, _, hoD, _, _⟩ := hns.count wi
  refine PySem.W.set_plain (od := some oD) I.kIn ⟨ho, rfl, rfl, hoD⟩ T.sa ?_
  refine PySem.W.osa_openX (od := some oD) PySem.F.store_LookupError I.kIn ⟨ho, rfl, rfl, hoD⟩ ov (taker0 nf) fun b => ?_
  refine wpAny_bind (wpAny_pure (wpAny_bind (wpAny_bind (wpAny_loadPart ho (wpAny_bind (PySem.W.looks_clsIn I.kIn hcd _ _ _ _ (fun _ _ z => z) ?_))))))
  rw [hdict]
  refine wpAny_pure (a := some dx) ?_
  refine PySem.OEX.store_in_old hns wi (by rw [List.length_map]; omega) fun h2 t2 hn hsame => ?_
  obtain ⟨o2, es2, ep2, z2, _⟩ := id hn
  exact go _ (I.write (t' := t2) (x := dx) (e := dx) (o := exd dx ((f, y) :: fs)) (by rw [hd]; exact True.intro) (.inl rfl) (fun b o hb z => (hsame.2 b hb).trans z) ⟨_, z2⟩ (exd_ok hn (relO_put r rel)))
end
def tLst1 (K : PySem.W.Frag) (f : Str) (to te : TE) : TS := fun D σ H => te σ H fun y H1 => to σ H1 fun x H2 => ∃ a C : Addr, x = .ref a ∧ OexL K C ∧ PySem.W.findIn K (.ref C) f = some none ∧
  ((H2 a = some (exo a C none) ∧ ∀ dx, H2 dx = none → dx ≠ a → D.nx σ (upd (upd H2 dx (exd dx [(f, y)])) a (exo a C (some dx)))) ∨
    ∃ (dx : Addr) (fs : List (Str × V)), H2 a = some (exo a C (some dx)) ∧ H2 dx = some (exd dx fs) ∧ fs.length ≤ 900 ∧ D.nx σ (upd H2 dx (exd dx ((f, y) :: fs))))
section
variable {X : Cx} {o e : Expr} {es : List Expr} {to te : TE} {ta : TA} {f : Str} {p p' pos : Pos}
theorem ps_lset (ho : PE X o to) (he : PE X e te) (hs : swapsWith e (some (.Attribute o f p')) pos.line X.env = pure false := by rfl) : PS X (.Assign [.Attribute o f p'] e pos) (tLst1 X.K f to te) := by
  refine ⟨fun pins s σ H D I h => plainObj_wpAny_Assign_Attribute (thn (he.run pins s σ H _ I h) fun v s1 hv => ?_) hs⟩
  obtain ⟨y, H1, I1, r1, q1⟩ := hv
  refine thn (ho.run pins s1 σ H1 _ I1 q1) fun u s2 hu => ?_
  obtain ⟨x, H2, I2, r2, a, C, rfl, T, nf, q⟩ := hu
  cases (show u = Value.ref a from r2)
  rcases q with ⟨ea, q⟩ | ⟨dx, fs, ea, ed, hl, q⟩
  · exact oexl_set0 T I2 ea nf r1 fun dx s' hn ne J => ⟨σ, _, J, q dx hn ne⟩
  · exact oexl_set1 T I2 ea ed hl nf r1 fun s' J => ⟨σ, _, J, q⟩
theorem pmk_oexl {CX : CXT} {x : Str} {C fI : Addr} {k : Nat} {fd : FuncData} {ps : List Str} {sp : Sp} (T : OexL X.K C) (iC : PySem.W.findIn X.K (.ref C) "__init__" = some (some (.ref fI))) (tI : PySem.W.typeIn X.K (.ref fI) = some (.type "function"))
    (FI : FnOk X.prog X.w X.K X.mg X.base CX k fI fd ps sp) (room : Room (k + 1) X.A) (bd : Binds X.K fd ps []) (nx : Passes CX X (fun _ _ _ => False)) (hg : Gl X x) (hm : X.mg x = some (.ref C)) (ha : PA X (e :: es) ta)
    (hdb : (x == ("__debug__" : Str)) = false := by decide) (he : starEach (e :: es) X.env = (false, eval e X.env) :: starEach es X.env := by rfl) (hpl : (backTo pos (starEach es X.env)).any (·.1) = false := by rfl) :
    L2N.PMk X (.Call (.Name x p) (e :: es) [] pos) (tMkO C sp [] ta) := by
  intro pins s σ H Q I h
  obtain ⟨nm, q, N, bs, sn, sub, ab, col, dd, k0, k1, k2, k3, k5, hC⟩ := T.cls
  refine wpAny_Call_Name_kw (ld_glob I hg hm ?_ hdb)
  refine PySem.W.callWith_K (h₀ := X.base) I.ok.mod.kin T.kC (thn (ha.run pos pins s σ H _ I h) fun us s1 hu => ?_) he hpl
  obtain ⟨vs, H1, I1, r1, hz, wish⟩ := hu
  refine ⟨I1.kIn, ?_⟩
  show wpAny _ _ (call (.ref C) us) _ _ _
  obtain ⟨hh, gg, dr, tk, oo⟩ := s1
  have up1 : hh.objs.size ≤ newAt hh := Nat.le_succ _
  have w2 := wish (newAt hh) (I1.hok.fresh up1)
  have keep : ∀ b o, hh.get? b = some o → (grownBy hh us C).get? b = some o := fun b o z => Heap.get?_push_of_some _ (Heap.get?_push_of_some _ z)
  have at2 : (grownBy hh us C).get? (newAt hh) = some (PySem.HandSPX.excO C hh.objs.size) := by
    show ((hh.push (PySem.W.kdv_tup us)).push (PySem.HandSPX.excO C hh.objs.size)).get? (hh.objs.size + 1) = _
    heap_get
  have I2 : L2.Inv X pins σ (upd H1 (newAt hh) (exo (newAt hh) C none)) ⟨grownBy hh us C, gg, dr, tk, oo⟩ := I1.laid (t' := tk) keep up1 (exo_ok at2)
  have r2 : Vals (V.ref (newAt hh) :: (vs ++ [])) (Value.ref (newAt hh) :: (us ++ [])) := .cons rfl (r1.append .nil)
  have len2 : (Value.ref (newAt hh) :: us ++ []).length = ps.length := r2.length.symm.trans (FI.len _ _ _ _ w2)
  have small : us.length ≤ sizeLine := by rw [← Paired.length r1, sizeLine_eq]; omega
  refine wpAny_call (PySem.HandSPX.call_own PySem.F.excBase_LookupError (fun Y => rfl) (I1.kIn _ _ hC) (PySem.W.looks_findIn I1.kIn iC) (fun self => PySem.W.bind_fn I1.kIn self tI) small ?_)
  refine codeAny_mono (FI.run _ X.stack _ _ ⟨Value.ref (newAt hh) :: us, []⟩ (Value.ref (newAt hh) :: (us ++ [])) _ _ (fun _ _ _ => False) (room.make C us []) (I2.env0.make C us []) (by have b2 := bd ⟨grownBy hh us C, gg, dr, tk, oo⟩ (Value.ref (newAt hh) :: us) I2.kIn len2; rw [List.cons_append] at b2; exact b2) r2 w2) fun r s' z => ?_
  match r, z with
  | .error er, z => exact nx pins σ _ _ er s' I2 z
  | .ok .next, z => exact z.elim
  | .ok .brk, z => exact z.elim
  | .ok .cont, z => exact z.elim
  | .ok (.ret u), z =>
    obtain ⟨v, H2, o2, bare, un, hok, rv, ev, d, fs, ea, ed, hd1, q2⟩ := z
    subst ev
    obtain ⟨h2, g2, d2, t2, os'⟩ := s'
    exact ⟨rv, mk_endN (raises_own T.exC T.tyC) I1 up1 keep un hok o2 bare ea ed hd1 q2⟩
end
theorem oexl_mk {K : PySem.W.Frag} {C N : Addr} {nm q : Str} {bs : List Value} {sn : List Str} {sub : List Value} {ab : Bool} {col : Option Bool} {dd : Option Addr} {m0 m1 m2 m3 m5 : Option Value} (xC : K.lookup C = some (excClassObj nm q C N bs leTail true sn sub ab col dd m0 m1 m2 m3 m5 "LookupError.__new__"))
    (sa : PySem.W.findIn K (.ref C) "__setattr__" = some (some (.builtin "object.__setattr__"))) (eC : PySem.W.subIn K (.ref C) (.type "BaseException") = some true) (tC : PySem.W.typeIn K (.ref C) = some (.type "type")) (kC : PySem.W.keepIn K (.ref C) = true) : OexL K C :=
  ⟨⟨nm, q, N, bs, sn, sub, ab, col, dd, m0, m1, m2, m3, m5, xC⟩, sa, eC, tC, kC⟩
structure ExcG (P : Program) (w : World) (K : PySem.W.Frag) (mg : Str → Option Value) (base : Heap) (k : Nat) (x : Str) (flds : List Str) : Prop where
  ex : ∃ C : Addr, mg x = some (.ref C) ∧ ∀ (X : Cx) (a : Expr) (es : List Expr) (ta : TA) (p pos : Pos), X.prog = P → X.w = w → X.K = K → X.mg = mg → X.base = base → Room (k + 1) X.A → Gl X x → PA X (a :: es) ta → (x == ("__debug__" : Str)) = false →
    starEach (a :: es) X.env = (false, eval a X.env) :: starEach es X.env → (backTo pos (starEach es X.env)).any (·.1) = false → L2N.PMk X (.Call (.Name x p) (a :: es) [] pos) (tMkO C (spIn C flds) [] ta)
theorem ExcT.gen {P : Program} {w : World} {K : PySem.W.Frag} {mg : Str → Option Value} {base : Heap} {k : Nat} {x : Str} {flds : List Str} (T : ExcT P w K mg base k x flds) : ExcG P w K mg base k x flds := by
  obtain ⟨C, fI, fd, ps, OX, gC, iC, tI, FI, bI⟩ := T.ex
  refine ⟨C, gC, fun X a es ta p pos e1 e2 e3 e4 e5 hr hg ha hdb he hpl => ?_⟩
  subst e1 e2 e3 e4 e5
  exact pmk_oexN OX iC tI FI hr bI pass0 hg gC ha hdb he hpl
theorem excG_mk {P : Program} {w : World} {K : PySem.W.Frag} {mg : Str → Option Value} {base : Heap} {k : Nat} {x : Str} {flds : List Str} {C fI : Addr} {fd : FuncData} {ps : List Str} (OX : OexL K C) (gC : mg x = some (.ref C)) (iC : PySem.W.findIn K (.ref C) "__init__" = some (some (.ref fI)))
    (tI : PySem.W.typeIn K (.ref fI) = some (.type "function")) (FI : FnOk P w K mg base CX0 k fI fd ps (spIn C flds)) (bI : Binds K fd ps []) : ExcG P w K mg base k x flds := by
  refine ⟨C, gC, fun X a es ta p pos e1 e2 e3 e4 e5 hr hg ha hdb he hpl => ?_⟩
  subst e1 e2 e3 e4 e5
  exact pmk_oexl OX iC tI FI hr bI pass0 hg gC ha hdb he hpl
theorem initL1 {P : Program} {w : World} {K : PySem.W.Frag} {mg : Str → Option Value} {base : Heap} {C fI : Addr} {fd : FuncData} {qual f y : Str} {st : Stmt} {p1 p2 p3 p4 : Pos} (F : L2.Fun K "__init__" qual st fI fd) (S : FnScope ["self", y] ["self", y] (defScope st)) (hb : defBody st = [.Assign [.Attribute (.Name "self" p1) f p2] (.Name y p3) p4])
    (T : OexL K C) (hno : PySem.W.findIn K (.ref C) f = some none)
    (hv1 : Vis (defScope st) "self") (hv2 : Vis (defScope st) y) (hdy : (y == ("__debug__" : Str)) = false := by decide) (hcy : (y == ("__classdict__" : Str)) = false := by decide)
    (hs : ∀ env, swapsWith (.Name y p3) (some (.Attribute (.Name "self" p1) f p2)) p4.line env = pure false := by intro _; rfl) : FnOk P w K mg base CX0 1 fI fd ["self", y] (spIn C [f]) := by
  refine F.ok S (fun vs H Q E h => ?_) fun cdv A outer s H vs Q E hr h => ⟨tLst1 K f (tVar 0) (tVar 1), ?_, ?_⟩
  · obtain ⟨a, ys, rfl, hl, _⟩ := h
    simp [hl]
  · rw [hb]
    exact pss_one (ps_lset (pe_var rfl hv1) (pe_var rfl hv2 hdy hcy) (hs _))
  · obtain ⟨a, ys, rfl, hl, he, k⟩ := h
    match ys, hl with
    | [y1], _ =>
      refine ⟨y1, rfl, .ref a, rfl, a, C, rfl, T, hno, .inl ⟨he, fun dx hd ne => ?_⟩⟩
      exact k dx _ hd ne upd_same (by rw [upd_ne ne, upd_same]; rfl) fun b h1 h2 => by rw [upd_ne h1, upd_ne h2]
end DL
namespace DL
open PySem L2 PySem.Spec
def TestOk (X : Cx) (te : Expr) (cs : Value → Option Bool) : Prop :=
  ∀ (a : Addr) (oe : Obj) (pn : List (Addr × Obj)) (σ : St) (H : Hp) (s : Shared) (cls : Value) (b : Bool) (R : Bool → Shared → Prop) (E : Value → Shared → Prop), L2.Inv (X.suite a ((a, oe) :: pn)) [] σ H s →
    PySem.W.Looks (model X.prog X.w) s.heap (typeOf (.ref a)) cls → cs cls = some b → (∀ h', (∀ q o, s.heap.get? q = some o → h'.get? q = some o) → R b { s with heap := h' }) →
    wpAny (model X.prog X.w) (X.A.mark (some (.ref a))) (eval te X.env) (fun c s1 => wpAny (model X.prog X.w) (X.A.mark (some (.ref a))) (excMatches (.ref a) c) R E s1) E s
def HName (X : Cx) (nm : Str) : Prop := X.env.kindOf nm = some .local ∨ (X.env.kindOf nm = some .cell ∧ X.fn nm = true)
theorem HName.fn {X : Cx} {nm : Str} (h : HName X nm) : X.fn nm = true ∨ X.env.scope.names.lookup nm = some .local := h.elim .inr fun z => .inl z.2
structure Cl where
  cs : Value → Option Bool
  i : Option Nat
  ts : Addr → Value → Option Addr → TS
def Ends.drop (D : Ends) (i : Nat) : Ends := { nx := fun σ' H' => D.nx (σ'.set i none) H', rt := D.rt, bk := fun σ' H' => D.bk (σ'.set i none) H', ct := fun σ' H' => D.ct (σ'.set i none) H' }
inductive ClsOk (X : Cx) : List ExceptHandler → List Cl → Prop
  | nil : ClsOk X [] []
  | one {te : Expr} {cs : Value → Option Bool} {ts : Addr → Value → Option Addr → TS} {b0 : Stmt} {su : List Stmt} {p : Pos} {hs : List ExceptHandler} {l : List Cl} (t : TestOk X te cs)
      (w : ∀ (a : Addr) (oe : Obj) (cls : Value) (d : Option Addr) (pn : List (Addr × Obj)), L2N.Zn cls d oe → (∃ vs, oe.data = .fields vs) → PSs (X.suite a ((a, oe) :: pn)) (b0 :: su) (ts a cls d)) (r : ClsOk X hs l) :
      ClsOk X (.ExceptHandler (some te) none (b0 :: su) p :: hs) (⟨cs, none, ts⟩ :: l)
  | as {te : Expr} {cs : Value → Option Bool} {ts : Addr → Value → Option Addr → TS} {b0 : Stmt} {su : List Stmt} {p : Pos} {hs : List ExceptHandler} {l : List Cl} {i : Nat} {nm : Str} (t : TestOk X te cs) (nd : X.N.Nodup) (hi : X.N[i]? = some nm) (hl : HName X nm)
      (w : ∀ (a : Addr) (oe : Obj) (cls : Value) (d : Option Addr) (pn : List (Addr × Obj)), L2N.Zn cls d oe → (∃ vs, oe.data = .fields vs) → PSs (X.suite a ((a, oe) :: pn)) (b0 :: su) (ts a cls d)) (r : ClsOk X hs l) :
      ClsOk X (.ExceptHandler (some te) (some nm) (b0 :: su) p :: hs) (⟨cs, some i, ts⟩ :: l)
section
variable {X : Cx} {body : List Stmt} {c0 : ExceptHandler} {hds : List ExceptHandler} {l : List Cl} {pos : Pos} {tb : WX → TS} {Wout : WX}
end
end DL
namespace DL
open PySem L2 PySem.Spec
def CatB (K : PySem.W.Frag) (mg : Str → Option Value) (tb : CT) (rt : List (Str × Bool)) (cs : Value → Option Bool) : Prop := ∀ c l, tb.lookup c = some l → ∃ C b, mg c = some (.ref C) ∧ rt.lookup c = some b ∧ cs (.ref C) = some b
def tsOf {ι : Type} (Xf : ι → Cx) (su : List Stmt) : Addr → Value → Option Addr → TS := fun a cls d D σ H => ∃ t : TS, (∀ b : SI Xf cls d, PSs (suF Xf a cls d b) su t) ∧ t D σ H
def sLost : Sf := fun _ => none
inductive ClD {ι : Type} (Xf : ι → Cx) (K : PySem.W.Frag) (mg : Str → Option Value) (M : Mk) (tb : CT) (mx : List Ty) (j : Nat) (mn : List Ty) : List ExceptHandler → List Cl → Sf → Prop
  | nil : ClD Xf K mg M tb mx j mn [] [] sLost
  | one {te : Expr} {cs : Value → Option Bool} {b0 : Stmt} {su : List Stmt} {p : Pos} {hs : List ExceptHandler} {l : List Cl} {f g : Sf} (rt : List (Str × Bool)) (t : ∀ i, TestOk (Xf i) te cs) (c : CatB K mg tb rt cs)
      (w : ∀ (a : Addr) (cls : Value) (d : Option Addr), PSsd (suF Xf a cls d) K M mx (b0 :: su) f mn) (r : ClD Xf K mg M tb mx j mn hs l g) :
      ClD Xf K mg M tb mx j mn (.ExceptHandler (some te) none (b0 :: su) p :: hs) (⟨cs, none, tsOf Xf (b0 :: su)⟩ :: l) (sIf (bT (e1 (gIsE rt) (eVar j))) f g)
  | as {te : Expr} {cs : Value → Option Bool} {b0 : Stmt} {su : List Stmt} {p : Pos} {hs : List ExceptHandler} {l : List Cl} {f g : Sf} {nm : Str} (rt : List (Str × Bool)) (t : ∀ i, TestOk (Xf i) te cs) (c : CatB K mg tb rt cs)
      (w : Suit Xf K mg M tb mx j (b0 :: su) f mn) (hN : ∀ i, (Xf i).N[j]? = some nm) (hl : ∀ i, HName (Xf i) nm) (r : ClD Xf K mg M tb mx j mn hs l g) :
      ClD Xf K mg M tb mx j mn (.ExceptHandler (some te) (some nm) (b0 :: su) p :: hs) (⟨cs, some j, tsOf Xf (b0 :: su)⟩ :: l) (sIf (bT (e1 (gIsE rt) (eVar j))) f g)
section
variable {ι : Type} {Xf : ι → Cx} {P : Program} {w : World} {K : PySem.W.Frag} {mg : Str → Option Value} {base : Heap} {n : Nat} [F : Fam Xf P w K mg base n]
variable {M : Mk} {m mn mx : List Ty} {pos : Pos} {body : List Stmt} {c0 : ExceptHandler} {hds : List ExceptHandler} {fb : Sf} {fs : Sf} {tb : CT} {j : Nat} {l : List Cl}
end
def sOff (f : Sf) : Sf := sSeq f (sRet (e1 gOk (eC .none)))
section
variable {ι : Type} {Xf : ι → Cx} {W : WX} {P : Program} {w : World} {K : PySem.W.Frag} {mg : Str → Option Value} {base : Heap} {n : Nat} [F : Fam Xf P w K mg base n]
variable {M : Mk} {m m1 m2 mn mx : List Ty} {pos p p2 spos : Pos} {a : Expr} {es : List Expr} {fr : Lf} {tys : List Ty} {L : List (Option Nat)} {tb : CT}
end
end DL
namespace DL
open PySem L2 PySem.Spec
@[simp] theorem rLost {e : En} : sLost e = none := rfl
@[simp] theorem rOff {f : Sf} {e : En} : sOff f e = sSeq f (sRet (e1 gOk (eC .none))) e := rfl
section
variable {ι : Type} {Xf : ι → Cx} {P : Program} {w : World} {K : PySem.W.Frag} {mg : Str → Option Value} {base : Heap} {n : Nat} [F : Fam Xf P w K mg base n]
variable {x1 x2 x3 x4 : Str} {c1 c2 c3 c4 : Value} {p1 p2 p3 p4 tp : Pos} {k : Nat}
end
end DL
namespace DL
open PySem L2 PySem.Spec
theorem initL2 {P : Program} {w : World} {K : PySem.W.Frag} {mg : Str → Option Value} {base : Heap} {C fI : Addr} {fd : FuncData} {qual f y f2 y2 : Str} {st : Stmt} {p1 p2 p3 p4 q1 q2 q3 q4 : Pos} (F : L2.Fun K "__init__" qual st fI fd) (S : FnScope ["self", y, y2] ["self", y, y2] (defScope st)) (hb : defBody st = [.Assign [.Attribute (.Name "self" p1) f p2] (.Name y p3) p4, .Assign [.Attribute (.Name "self" q1) f2 q2] (.Name y2 q3) q4])
    (T : OexL K C) (hno : PySem.W.findIn K (.ref C) f = some none) (hno2 : PySem.W.findIn K (.ref C) f2 = some none)
    (hv1 : Vis (defScope st) "self") (hv2 : Vis (defScope st) y) (hv3 : Vis (defScope st) y2) (hdy : (y == ("__debug__" : Str)) = false := by decide) (hcy : (y == ("__classdict__" : Str)) = false := by decide) (hdy2 : (y2 == ("__debug__" : Str)) = false := by decide) (hcy2 : (y2 == ("__classdict__" : Str)) = false := by decide)
    (hs : ∀ env, swapsWith (.Name y p3) (some (.Attribute (.Name "self" p1) f p2)) p4.line env = pure false := by intro _; rfl) (hs2 : ∀ env, swapsWith (.Name y2 q3) (some (.Attribute (.Name "self" q1) f2 q2)) q4.line env = pure false := by intro _; rfl) : FnOk P w K mg base CX0 1 fI fd ["self", y, y2] (spIn C [f, f2]) := by
  refine F.ok S (fun vs H Q E h => ?_) fun cdv A outer s H vs Q E hr h => ⟨tSeq (tLst1 K f (tVar 0) (tVar 1)) (tLst1 K f2 (tVar 0) (tVar 2)), ?_, ?_⟩
  · obtain ⟨a, ys, rfl, hl, _⟩ := h
    simp [hl]
  · rw [hb]
    exact pss_cons (ps_lset (pe_var rfl hv1) (pe_var rfl hv2 hdy hcy) (hs _)) (pss_one (ps_lset (pe_var rfl hv1) (pe_var rfl hv3 hdy2 hcy2) (hs2 _)))
  · obtain ⟨a, ys, rfl, hl, he, k⟩ := h
    match ys, hl with
    | [z1, z2], _ =>
      refine ⟨z1, rfl, .ref a, rfl, a, C, rfl, T, hno, .inl ⟨he, fun dx hd ne => ?_⟩⟩
      refine ⟨z2, rfl, .ref a, rfl, a, C, rfl, T, hno2, .inr ⟨dx, [(f, z1)], upd_same, by rw [upd_ne ne, upd_same], by simp, ?_⟩⟩
      exact k dx _ hd ne (by rw [upd_ne (fun z => ne z.symm), upd_same]) (by rw [upd_same]; rfl) fun b h1 h2 => by rw [upd_ne h2, upd_ne h1, upd_ne h2]
structure ExcZ (P : Program) (w : World) (K : PySem.W.Frag) (mg : Str → Option Value) (x : Str) : Prop where
  ex : ∃ C : Addr, mg x = some (.ref C) ∧ ∀ (X : Cx) (p pos : Pos), X.prog = P → X.w = w → X.K = K → X.mg = mg → Gl X x → (x == ("__debug__" : Str)) = false → L2N.PMk X (.Call (.Name x p) [] [] pos) (fun _ H Q => Q (.ref C) none H)
theorem excZ_mk {P : Program} {w : World} {K : PySem.W.Frag} {mg : Str → Option Value} {x : Str} {C : Addr} {bmB : List Value} {B newId initId : String} (F : ExcBaseFacts B newId initId bmB) (q : PySem.W.excIn K C bmB newId = true) (gC : mg x = some (.ref C)) (kC : PySem.W.keepIn K (.ref C) = true)
    (eC : PySem.W.subIn K (.ref C) (.type "BaseException") = some true) (tC : PySem.W.typeIn K (.ref C) = some (.type "type")) : ExcZ P w K mg x := by
  refine ⟨C, gC, fun X p pos e1 e2 e3 e4 hg hd => ?_⟩
  subst e1 e2 e3 e4
  intro pins s σ H Q I h
  refine wpAny_Call_Name_kw (ld_glob I hg gC ?_ hd)
  refine PySem.W.callWith_K0 I.kIn kC ?_
  show wpAny _ _ (call (.ref C) []) _ _ _
  obtain ⟨bm, N, nm, qn, bs, hdct, sn, sub, ab, col, dd, k0, k1, k2, k3, k5, mN, hC, hN, hni, T⟩ := exc_obj I.kIn q
  refine wpAny_call_exc_subT F T hC hN hni (fun h' e hm => ?_) (Nat.zero_le _)
  exact L2N.mk_of I hm (raises_own eC tC) h (I.hok.gone hm.new)
section
variable {ι : Type} {Xf : ι → Cx} {W : WX} {P : Program} {w : World} {K : PySem.W.Frag} {mg : Str → Option Value} {base : Heap} {n : Nat} [F : Fam Xf P w K mg base n]
variable {M : Mk} {m mn mx : List Ty} {pos p spos : Pos} {tb : CT}
end
end DL
namespace DL
open PySem L2 PySem.Spec
def eOrT (f g : Ef) : Ef := fun e => (f e).bind fun p => (gTruth p.1).bind fun b => if b = true then some p else g p.2
@[simp] theorem rOrT {f g : Ef} {e : En} : eOrT f g e = (f e).bind fun p => (gTruth p.1).bind fun b => if b = true then some (p.1, p.2) else g p.2 := rfl
section
variable {ι : Type} {Xf : ι → Cx} {P : Program} {w : World} {K : PySem.W.Frag} {mg : Str → Option Value} {base : Heap} {n : Nat} [F : Fam Xf P w K mg base n]
variable {m m1 : List Ty} {pos : Pos} {a b : Expr} {f g : Ef} {rest : List Expr}
end
end DL
namespace DL
open PySem L2 PySem.Spec
def xUn (gg : PyData → Option PyData) (fx : EfX) : EfX := fun e => (fx e).bind fun p => match p.1 with
  | .ok d => (gg d).bind fun r => some (.ok r, p.2)
  | .ex c fs => some (.ex c fs, p.2)
def sRetE1 (tw : CT) (gg : PyData → Option PyData) (f : Ef) : Sf := fun e => (f e).bind fun p => (gIsOk tw p.1).bind fun w => (asB w).bind fun b => if b = true then (gUn p.1).bind fun d => (gg d).bind fun r => (gOk r).bind fun z => some (.rt z, p.2) else some (.rt p.1, p.2)
@[simp] theorem rRetE1 {tw : CT} {gg : PyData → Option PyData} {f : Ef} {e : En} : sRetE1 tw gg f e = (f e).bind fun p => (gIsOk tw p.1).bind fun w => (asB w).bind fun b => if b = true then (gUn p.1).bind fun d => (gg d).bind fun r => (gOk r).bind fun z => some (.rt z, p.2) else some (.rt p.1, p.2) := rfl
section
variable {K : PySem.W.Frag} {mg : Str → Option Value} {m m1 : List Ty} {W : WX} {fx : EfX} {ty : Ty} {gg : PyData → Option PyData}
theorem DEX.un {r : V → Hp → VK → Prop} {ta : TE} (ha : DEX K mg m ta .s fx m1 W) (hr : D1 K r ty gg) : DEX K mg m (fun σ H Q => ta σ H fun x H1 => r x H1 Q) ty (xUn gg fx) m1 W := by
  intro G H σ e A res e' Q st hf k
  obtain ⟨⟨r1, e1⟩, hf1, hf⟩ := oBs hf
  refine ha st hf1 ?_
  cases r1 with
  | ok d =>
    obtain ⟨d3, hf3, hf⟩ := oBs (show (gg d).bind _ = _ from hf)
    cases hf
    intro G1 H1 v1 A1 B1 s1 st1 o1 nd1
    cases o1 with
    | s q1 => exact hr st1 q1 hf3 fun G3 H3 v3 A3 B3 s3 st3 o3 nd3 => k G3 H3 v3 A3 B3 (s1.seq0 s3) st3 o3 nd3
  | ex c fs => cases hf; exact k
end
section
variable {ι : Type} {Xf : ι → Cx} {W : WX} {P : Program} {w : World} {K : PySem.W.Frag} {mg : Str → Option Value} {base : Heap} {n : Nat} [F : Fam Xf P w K mg base n]
variable {M : Mk} {m m1 mn mx : List Ty} {pos p p2 p3 cp : Pos} {a : Expr} {es : List Expr} {fr : Lf} {tys : List Ty} {L : List (Option Nat)} {tb tw tG : CT} {fx : EfX} {Fn : DFn} {gg : PyData → Option PyData} {ty : Ty}
end
end DL
namespace DL
open PySem L2 PySem.Spec
def gUpdE (d s : PyData) : Option PyData := match d, s with
  | .dict kvs, .dict more => (dictI kvs).bind fun ds => (dictI more).bind fun es => if kvs.length + es.length < 100000 then some (.dict ((joinI es ds).map kvD)) else none
  | _, _ => none
def gDKeys (d : PyData) : Option PyData := match d with
  | .dict kvs => some (.list (kvs.map (·.1)))
  | _ => none
def eDKeys (j : Nat) : Ef := fun e => (gDKeys (e.getD j .none)).bind fun d => some (d, e)
@[simp] theorem rDKeys {j : Nat} {e : En} : eDKeys j e = (gDKeys (e.getD j .none)).bind fun d => some (d, e) := rfl
def eUpdE (j : Nat) (f : Ef) : Ef := fun e => (f e).bind fun p => (gUpdE (p.2.getD j .none) p.1).bind fun d => some (.none, p.2.set j d)
@[simp] theorem rUpdE {j : Nat} {f : Ef} {e : En} : eUpdE j f e = (f e).bind fun p => (gUpdE (p.2.getD j .none) p.1).bind fun d => some (.none, p.2.set j d) := rfl
section
variable {K : PySem.W.Frag} {G H G1 H1 : Hp} {m m1 m2 mn : List Ty} {σ : St} {e : En} {A A1 : List Addr} {t : Ty} {ts : List Ty}
end
section
variable {ι : Type} {Xf : ι → Cx} {P : Program} {w : World} {K : PySem.W.Frag} {mg : Str → Option Value} {base : Heap} {n : Nat} [F : Fam Xf P w K mg base n]
variable {m m1 m2 m3 : List Ty} {pos p p2 apos cpos xp : Pos} {a b c e : Expr} {f g h : Ef}
end
end DL
namespace DL
open PySem L2 PySem.Spec
section
variable {K : PySem.W.Frag} {G H : Hp} {m : List Ty} {σ : St} {e : En} {A : List Addr}
end
def zipNS : PyData → PyData → Option (List PyData)
  | .list xs, .tuple ys => some (zipD xs ys)
  | _, _ => none
def iZpN (f g : Ef) : Lf := fun e => (f e).bind fun p => (g p.2).bind fun q => (zipNS p.1 q.1).bind fun ds => some (ds, q.2)
section
variable {ι : Type} {Xf : ι → Cx} {P : Program} {w : World} {K : PySem.W.Frag} {mg : Str → Option Value} {base : Heap} {n : Nat} [F : Fam Xf P w K mg base n]
variable {m m1 m2 m3 : List Ty} {pos p p2 tpos : Pos} {a b c tg : Expr} {elts : List Expr} {kk : Nat} {f g h : Ef}
include F
end
@[simp] theorem riZpN {f g : Ef} {e : En} : iZpN f g e = (f e).bind fun p => (g p.2).bind fun q => (zipNS p.1 q.1).bind fun ds => some (ds, q.2) := rfl
@[simp] theorem xZipN {xs ys : List PyData} : zipNS (.list xs) (.tuple ys) = some (zipD xs ys) := rfl
end DL
namespace DL
open PySem L2 PySem.Spec
section
open PySem.Calls PyProof.Rows PyProof.V
end
def intVal : PyData → Option Int
  | .int i => some i
  | _ => none
def sameI : List (Int × PyData) → List (Int × PyData) → Option Bool
  | [], _ => some true
  | p :: r, es => (intVal p.2).bind fun i => match valI es p.1 with
    | none => some false
    | some d => (intVal d).bind fun j => (sameI r es).map fun b => (i == j) && b
def gDNe (a b : PyData) : Option PyData := match a, b with
  | .dict ka, .dict kb => (dictI ka).bind fun ds => (dictI kb).bind fun es => if ds.length = es.length then (sameI ds es).map fun r => .bool (!r) else some (.bool true)
  | _, _ => none
def eDNe (j : Nat) (f : Ef) : Ef := fun e => (f e).bind fun p => (gDNe p.1 (p.2.getD j .none)).bind fun d => some (d, p.2)
@[simp] theorem stb_dict : stb Ty.d = false := rfl
@[simp] theorem rDNe {j : Nat} {f : Ef} {e : En} : eDNe j f e = (f e).bind fun p => (gDNe p.1 (p.2.getD j .none)).bind fun d => some (d, p.2) := rfl
section
variable {K : PySem.W.Frag} {G H G1 H1 : Hp} {m m1 m2 mn : List Ty} {σ : St} {e : En} {A A1 : List Addr} {t : Ty} {ts : List Ty}
end
section
variable {ι : Type} {Xf : ι → Cx} {P : Program} {w : World} {K : PySem.W.Frag} {mg : Str → Option Value} {base : Heap} {n : Nat} [F : Fam Xf P w K mg base n]
variable {m m1 m2 m3 : List Ty} {pos p p2 apos cpos xp : Pos} {a b c e : Expr} {f g h : Ef}
end
end DL
namespace DL
open PySem L2 PySem.Spec
section
open PyProof.Rows PySem.Calls
variable {prog : Program} {w : World} {A : Around} {E : Value → Shared → Prop} {s : Shared} {K : PySem.W.Frag} {x C f : Addr} {ox : Obj} {odd : Option Obj}
end
section
variable {ι : Type} {Xf : ι → Cx} {P : Program} {w : World} {K : PySem.W.Frag} {mg : Str → Option Value} {base : Heap} {n : Nat} [F : Fam Xf P w K mg base n] [FG : FamG Xf]
variable {m m1 : List Ty} {pos p xp : Pos} {fr : Lf} {tys : List Ty} {L : List (Option Nat)} {C : Addr} {ns : List Str} {ts : List Ty}
end
end DL
namespace DL
open PySem L2 PySem.Spec
def joinS : Str → List PyData → Option Str
  | acc, [] => some acc
  | acc, .str y :: r => if (acc ++ y).length ≤ sizeLine then joinS (acc ++ y) r else none
  | _, _ :: _ => none
def gJs (ds : List PyData) : Option PyData := (joinS Str.empty ds).bind fun x => if x.length ≤ sizeLine then some (.str x) else none
def eJs (lf : Lf) : Ef := fun e => (lf e).bind fun p => (gJs p.1).bind fun d => some (d, p.2)
@[simp] theorem rJs {lf : Lf} {e : En} : eJs lf e = (lf e).bind fun p => (gJs p.1).bind fun d => some (d, p.2) := rfl
section
variable {ι : Type} {Xf : ι → Cx} {P : Program} {w : World} {K : PySem.W.Frag} {mg : Str → Option Value} {base : Heap} {n : Nat} [F : Fam Xf P w K mg base n]
variable {m m1 m2 : List Ty} {pos p : Pos} {a v1 v2 : Expr} {es rest : List Expr} {f : Ef} {lf : Lf}
structure PJD (Xf : ι → Cx) (K : PySem.W.Frag) (m : List Ty) (es : List Expr) (lf : Lf) (m1 : List Ty) : Prop where
  ex : ∃ ts : List TE, (∀ i, PJ (Xf i) es ts) ∧ ∀ {G H : Hp} {σ : St} {e e' : En} {A : List Addr} {ds : List PyData} {acc out : Str} {Q : Str → Hp → Prop}, Stt K m G H σ e A → lf e = some (ds, e') → joinS acc ds = some out →
    (∀ G' H' A', Step A G H A' G' H' → Stt K m1 G' H' σ e' A' → Q out H') → tJs ts acc σ H Q
end
end DL
namespace DL
open PySem L2 PySem.Spec
section
open PyProof.Rows
variable {X : Cx} {e : Expr} {te : TE} {p apos cpos pos : Pos}
end
section
variable {K : PySem.W.Frag} {G H G1 H1 : Hp} {m m1 m2 mn : List Ty} {σ : St} {e : En} {A A1 : List Addr}
end
section
variable {ι : Type} {Xf : ι → Cx} {P : Program} {w : World} {K : PySem.W.Frag} {mg : Str → Option Value} {base : Heap} {n : Nat} [F : Fam Xf P w K mg base n]
variable {m m1 : List Ty} {pos p apos cpos : Pos} {a : Expr} {f : Ef}
end
end DL
namespace DL
open PySem L2 PySem.Spec
def spY (K : PySem.W.Frag) (mg : Str → Option Value) (ptys : List Ty) (rty : Ty) (tb : CT) (Fn : DFn) : Sp := fun vs H Q E =>
  ∃ (ds : List PyData) (d : PyData) (fs : List PyData) (r : Res) (G : Hp) (A : List Addr), Fn ds = some (d, fs) ∧ decR tb d = some r ∧ OwnA K G H ptys ds (vs.map some) A ∧ A.Nodup ∧ Same G H ∧ match r with
    | .ok d1 => ∀ (G' H' : Hp) (v : V) (Av A' : List Addr), Step A G H (Av ++ A') G' H' → OwnA K G' H' ptys fs (vs.map some) A' → Own K G' H' rty d1 (some v) Av → (Av ++ A').Nodup → Same G' H' → Q v H'
    | .ex c fl => ∀ (G' H' : Hp) (A' : List Addr) (cls : Value) (dx : Option Addr), Step A G H A' G' H' → OwnA K G' H' ptys fs (vs.map some) A' → A'.Nodup → ExAt K mg G' c fl cls dx → Same G' H' → E cls dx H'
structure CalMX (P : Program) (w : World) (K : PySem.W.Frag) (mg : Str → Option Value) (base : Heap) (k : Nat) (C : Addr) (x : Str) (ptys : List Ty) (rty : Ty) (tb : CT) (Fn : DFn) : Prop where
  ex : ∃ (f : Addr) (fd : FuncData) (ps : List Str), FnX P w K mg base k f fd ps (spY K mg ptys rty tb Fn) ∧ Meth K C x f ∧ Binds K fd ps []
def xDec (tb : CT) (call : Ef) : EfX := fun e => (call e).bind fun p => (decR tb p.1).bind fun q => some (q, p.2)
section
variable {K : PySem.W.Frag} {mg : Str → Option Value} {m m1 m2 : List Ty} {fr : Lf} {tys : List Ty} {L : List (Option Nat)} {W : WX} {tb : CT}
end
section
variable {ι : Type} {Xf : ι → Cx} {P : Program} {w : World} {K : PySem.W.Frag} {mg : Str → Option Value} {base : Heap} {n : Nat} [F : Fam Xf P w K mg base n] [FG : FamG Xf] {W : WX}
variable {m m1 : List Ty} {pos apos xp : Pos} {a : Expr} {es : List Expr} {fr : Lf} {tys : List Ty} {L : List (Option Nat)} {C : Addr} {ns : List Str} {ts : List Ty} {tb : CT}
end
def sAsgE1 (tw : CT) (j : Nat) (gg : PyData → Option PyData) (f : Ef) : Sf := fun e => (f e).bind fun p => (gIsOk tw p.1).bind fun w => (asB w).bind fun b => if b = true then (gUn p.1).bind fun d => (gg d).bind fun r => some (.nx, p.2.set j r) else some (.rt p.1, p.2)
section
variable {tw tG tb : CT} {j : Nat} {call : Ef} {fx : EfX}
end
section
variable {ι : Type} {Xf : ι → Cx} {W : WX} {P : Program} {w : World} {K : PySem.W.Frag} {mg : Str → Option Value} {base : Heap} {n : Nat} [F : Fam Xf P w K mg base n]
variable {M : Mk} {m m1 m2 mn mx ml : List Ty} {pos p p2 p3 cp spos np np2 pos' zp lp : Pos} {v : Expr} {fx : EfX} {call : Ef} {tb tw tG : CT} {rty ty : Ty} {z : Str} {jz : Nat}
end
end DL
namespace DL
open PySem L2 PySem.Spec
section
variable {K : PySem.W.Frag} {m : List Ty} {G H G' H' : Hp} {σ : St} {e : En} {A : List Addr}
theorem rd_stt (st : Stt K m G H σ e A) (s : Step [] G H [] G' H') (sub : Same G' H') : Step A G H A G' H' ∧ Stt K m G' H' σ e A := by
  have s0 : Step A G H (A ++ []) G H := by rw [List.append_nil]; exact Step.refl
  obtain ⟨s1, nd1, hg, hh⟩ := s0.seq (ownA_at st.own) (by rw [List.append_nil]; exact st.nd) s List.nodup_nil
  rw [List.append_nil] at s1
  exact ⟨s1, ownA_fr st.own s.sg hg hh, st.nd, sub⟩
end
def DRV (K : PySem.W.Frag) (m : List Ty) (te : TE) (f : Ef) : Prop := ∀ {G H : Hp} {σ : St} {e : En} {A : List Addr} {d : PyData} {e' : En} {Q : VK}, Stt K m G H σ e A → f e = some (d, e') →
  (e' = e → ∀ (G' H' : Hp) (v : V), Step [] G H [] G' H' → Same G' H' → Dq K G' v d → Q v H') → te σ H Q
def DRL (K : PySem.W.Frag) (m : List Ty) (k : Nat) (ta : TA) (f : Lf) : Prop := ∀ {G H : Hp} {σ : St} {e : En} {A : List Addr} {ds : List PyData} {e' : En} {Q : List V → Hp → Prop}, Stt K m G H σ e A → f e = some (ds, e') →
  (e' = e → ds.length = k → ∀ (G' H' : Hp) (vs : List V), Step [] G H [] G' H' → Same G' H' → DqA K G' vs ds → Q vs H') → ta σ H Q
def DRX (K : PySem.W.Frag) (mg : Str → Option Value) (m : List Ty) (te : TE) (f : EfX) (W : WX) : Prop := ∀ {G H : Hp} {σ : St} {e : En} {A : List Addr} {r : Res} {e' : En} {Q : VK}, Stt K m G H σ e A → f e = some (r, e') →
  (match r with
  | .ok d => e' = e → ∀ (G' H' : Hp) (v : V), Step [] G H [] G' H' → Same G' H' → Dq K G' v d → Q v H'
  | .ex c fs => e' = e → ∀ (G' H' : Hp) (cls : Value) (dx : Option Addr), Step [] G H [] G' H' → Same G' H' → ExAt K mg G' c fs cls dx → W cls dx σ H') → te σ H Q
structure PRV {ι : Type} (Xf : ι → Cx) (K : PySem.W.Frag) (m : List Ty) (a : Expr) (f : Ef) : Prop where
  ex : ∃ te : TE, (∀ i, PE (Xf i) a te) ∧ DRV K m te f
structure PRL {ι : Type} (Xf : ι → Cx) (K : PySem.W.Frag) (m : List Ty) (k : Nat) (es : List Expr) (f : Lf) : Prop where
  ex : ∃ ta : TA, (∀ i, PA (Xf i) es ta) ∧ DRL K m k ta f
structure PRX {ι : Type} (Xf : ι → Cx) (W : WX) (K : PySem.W.Frag) (mg : Str → Option Value) (m : List Ty) (a : Expr) (f : EfX) : Prop where
  ex : ∃ te : TE, (∀ i, PE (Xf i) a te) ∧ DRX K mg m te f W
section
variable {K : PySem.W.Frag} {mg : Str → Option Value} {m : List Ty} {f g : Ef} {fr : Lf} {k : Nat} {W : WX}
theorem grow_step {G H H1 : Hp} (s : Same H H1) : Step [] G H [] G H1 := ⟨Same.refl G, fun a o h _ => s a o h, fun _ h => .inl h, fun a h ⟨o, z⟩ => by rw [h] at z; cases z⟩
theorem DRV.itm {te ti : TE} {g gi : Gq} {pt : Pf} (hp : DPl K m te (.l .s) g pt) (hi : DQv K m ti gi) : DRV K m (tOp (rIxL K) te ti) (eItm g gi) := by
  intro G H σ e A d e' Q st hf kk
  obtain ⟨dl, h1, hf⟩ := oBs hf
  obtain ⟨di, h2, hf⟩ := oBs hf
  obtain ⟨a, Ad, Ar, hp1, o1, ev, back⟩ := hp st h1
  cases o1 with
  | @l _ _ vs ds Ai ga ha hz oi =>
    cases di with
    | int i =>
      obtain ⟨x, hx, hf⟩ := Option.map_eq_some_iff.mp hf
      cases hf
      obtain ⟨j, hj, hx⟩ := oBs (show (ixN ds.length i).bind _ = _ from hx)
      obtain ⟨rfl, qi⟩ := of_ownA oi
      obtain ⟨v, hv, qv⟩ := qi.get hx
      refine ev fun H1 s1 => hi (stt_grow st s1).2 h2 fun H2 y s2 qy => ?_
      cases qy
      have s12 := s1.trans s2
      exact ⟨a, vs, i, v, rfl, rfl, .inl (.inl (s12 _ _ ha)), by unfold atI; rw [qi.1, hj]; exact hv, kk rfl G H2 v (grow_step s12) (fun b o hb => s12 _ _ (st.sub b o hb)) qv⟩
    | _ => cases hf
theorem DRL.nil : DRL K m 0 tNil lNil := by
  intro G H σ e A ds e' Q st hf kk
  cases hf
  exact kk rfl rfl G H [] Step.refl st.sub DqA.nil
theorem DRL.cons {te : TE} {ta : TA} (h1 : DRV K m te f) (h2 : DRL K m k ta fr) : DRL K m (k + 1) (tCons te ta) (lCons f fr) := by
  intro G H σ e A ds e' Q st hf kk
  obtain ⟨⟨d1, e1⟩, hf1, hf⟩ := oBs hf
  obtain ⟨⟨ds1, e2⟩, hf2, hf⟩ := oBs hf
  cases hf
  refine h1 st hf1 fun z1 G1 H1 v s1 sub1 q1 => ?_
  subst z1
  obtain ⟨s1', st1⟩ := rd_stt st s1 sub1
  refine h2 st1 hf2 fun z2 l2 G2 H2 vs s2 sub2 q2 => ?_
  refine kk z2 (by rw [List.length_cons, l2]) G2 H2 (v :: vs) (s1.seq0 s2) sub2 (DqA.cons (q1.mono s2.sg) q2)
theorem DRV.call {ta : TA} {Fn : DFn} {tys : List Ty} (h : DRL K m k ta fr) (ht : tys = List.replicate k .s) : DRV K m (tCallG (spD K tys .s Fn) ta) (eCall Fn fr) := by
  intro G H σ e A d e' Q st hf kk
  obtain ⟨⟨ds, e1⟩, hf1, hf⟩ := oBs hf
  obtain ⟨⟨d1, fs⟩, hf2, hf⟩ := oBs hf
  cases hf
  refine h st hf1 fun z1 l1 G1 H1 vs s1 sub1 q1 => ?_
  subst ht l1
  refine ⟨ds, _, fs, G1, [], hf2, ownA_of q1, List.nodup_nil, sub1, fun G2 H2 v Av A' s2 o2 ov nd2 sub2 => ?_⟩
  have z : A' = [] := stab_nil o2 fun t ht => by rw [(List.mem_replicate.mp ht).2]; rfl
  subst z
  cases ov with
  | s q => exact kk z1 G2 H2 v (s1.seq0 s2) sub2 q
theorem DRX.call {ta : TA} {Fn : DFnX} {tys : List Ty} (h : DRL K m k ta fr) (ht : tys = List.replicate k .s) : DRX K mg m (tCallS (spX K mg tys .s Fn) (WE W) ta) (xCall Fn fr) W := by
  intro G H σ e A r e' Q st hf kk
  obtain ⟨⟨ds, e1⟩, hf1, hf⟩ := oBs hf
  obtain ⟨r1, hf2, hf⟩ := oBs hf
  cases hf
  refine h st hf1 fun z1 l1 G1 H1 vs s1 sub1 q1 => ?_
  subst ht l1
  refine ⟨ds, _, G1, hf2, ownA_of q1, sub1, ?_⟩
  cases r with
  | ok d =>
    intro G2 H2 v Av s2 ov nd2 sub2
    cases ov with
    | s q => exact kk z1 G2 H2 v (s1.seq0 s2) sub2 q
  | ex c fs =>
    intro G2 H2 cls dx s2 ex sub2
    exact kk z1 G2 H2 cls dx (s1.seq0 s2) sub2 ex
section
variable {ts : List Ty} {ns : List Str} {C : Addr} {fl : Str} {j : Nat}
end
end
section
variable {ι : Type} {Xf : ι → Cx} {P : Program} {w : World} {K : PySem.W.Frag} {mg : Str → Option Value} {base : Heap} {n : Nat} [F : Fam Xf P w K mg base n]
variable {m m1 : List Ty} {pos p xp fpos apos cpos : Pos} {a b v : Expr} {es : List Expr} {f : Ef} {fr : Lf} {k : Nat} {g gi : Gq} {pt : Pf} {tys : List Ty} {W : WX} {fx : EfX}
variable {ts : List Ty} {ns : List Str} {C : Addr} {fl : Str}
end
def sAppE (tw : CT) (j k : Nat) (call : Ef) : Sf := fun e => (call e).bind fun p => (gIsOk tw p.1).bind fun w => (asB w).bind fun b => if b = true then (gUn p.1).bind fun d => (gAppF k (e.getD j .none) d).bind fun d2 => some (.nx, p.2.set j d2) else some (.rt p.1, p.2)
section
variable {ι : Type} {Xf : ι → Cx} {W : WX} {P : Program} {w : World} {K : PySem.W.Frag} {mg : Str → Option Value} {base : Heap} {n : Nat} [F : Fam Xf P w K mg base n]
variable {M : Mk} {m m1 mx : List Ty} {p2 : Pos} {v : Expr} {fx : EfX} {call : Ef} {tb tw tG : CT} {j k : Nat}
end
structure CalMK (P : Program) (w : World) (K : PySem.W.Frag) (mg : Str → Option Value) (base : Heap) (k : Nat) (C : Addr) (x kw : Str) (ty0 : Ty) (rty : Ty) (Fn : DFn) : Prop where
  ex : ∃ (f : Addr) (fd : FuncData) (ps : List Str) (ds : List Value), FnG P w K mg base k f fd ps (spD K [ty0, .s] rty Fn) ∧ Meth K C x f ∧ Vals [V.non] ds ∧ Binds K fd ps ds ∧ ∀ (s : Shared) (u v : Value), BindsTo s fd ⟨[u], [(kw, v)]⟩ (ps.zip [u, v])
section
variable {ι : Type} {Xf : ι → Cx} {P : Program} {w : World} {K : PySem.W.Frag} {mg : Str → Option Value} {base : Heap} {n : Nat} [F : Fam Xf P w K mg base n] [FG : FamG Xf]
variable {m : List Ty} {pos apos xp : Pos} {C : Addr} {ns : List Str} {ts : List Ty} {ty0 : Ty}
end
structure CalYF (P : Program) (w : World) (K : PySem.W.Frag) (mg : Str → Option Value) (base : Heap) (k : Nat) (x : Str) (ptys : List Ty) (rty : Ty) (tb : CT) (Fn : DFn) : Prop where
  ex : ∃ (f : Addr) (fd : FuncData) (ps : List Str), FnX P w K mg base k f fd ps (spY K mg ptys rty tb Fn) ∧ mg x = some (.ref f) ∧ PySem.W.keepIn K (.ref f) = true ∧ Binds K fd ps []
section
variable {ι : Type} {Xf : ι → Cx} {W : WX} {P : Program} {w : World} {K : PySem.W.Frag} {mg : Str → Option Value} {base : Heap} {n : Nat} [F : Fam Xf P w K mg base n] [FG : FamG Xf]
variable {m m1 : List Ty} {pos p : Pos} {a : Expr} {es : List Expr} {fr : Lf} {tys : List Ty} {L : List (Option Nat)} {tb : CT}
end
end DL
namespace DL
open PySem L2 PySem.Spec
structure PinX (outer : List Env) (H : Hp) (s : Shared) (a : Addr) (oe : Obj) : Prop where
  get : s.heap.get? a = some oe
  free : H a = none
  nofs : a ∉ frs outer
  nocell : ∀ v, oe.data ≠ .cell v
structure FnW (P : Program) (w : World) (K : PySem.W.Frag) (mg : Str → Option Value) (base : Heap) (k : Nat) (f : Addr) (fd : FuncData) (ps : List Str) (a : Addr) (cls : Value) (d : Option Addr) (sp : Sp) : Prop where
  len : ∀ vs H Q E, sp vs H Q E → vs.length = ps.length
  run : ∀ (A : Around) (outer : List Env) (s : Shared) (H : Hp) (args : Args) (us : List Value) (vs : List V) (Q : VK) (E : XK) (oe : Obj), RoomU k A → A.guards = some [] → A.handled = some (.ref a) → PinX outer H s a oe → L2N.Zn cls d oe → (∃ xs, oe.data = .fields xs) → Env0 P w K mg base A outer s H → BindsTo s fd args (ps.zip us) → Vals vs us → sp vs H Q E →
    codeAny (model P w) A (.call (.ref f) args) (CR CX0 outer P w H s Q E) s
structure CalW (P : Program) (w : World) (K : PySem.W.Frag) (mg : Str → Option Value) (base : Heap) (k : Nat) (x : Str) (ptys : List Ty) (rty : Ty) (Fn : DFn) (a : Addr) (cls : Value) (d : Option Addr) : Prop where
  ex : ∃ (f : Addr) (fd : FuncData) (ps : List Str), FnW P w K mg base k f fd ps a cls d (spD K ptys rty Fn) ∧ mg x = some (.ref f) ∧ PySem.W.keepIn K (.ref f) = true ∧ Binds K fd ps []
section
variable {ι : Type} {Xf : ι → Cx} {P : Program} {w : World} {K : PySem.W.Frag} {mg : Str → Option Value} {base : Heap} {n : Nat} [F : Fam Xf P w K mg base n] [FD : FamD Xf] {a0 : Addr} {cls : Value} {d0 : Option Addr}
variable {m m1 : List Ty} {pos p : Pos} {a : Expr} {es : List Expr} {fr : Lf} {tys : List Ty} {L : List (Option Nat)}
end
end DL
namespace DL
open PySem L2 PySem.Spec
def eLstP (g : Gq) : Ef := fun e => (g e).bind fun d => (gList d).bind fun r => some (r, e)
section
variable {K : PySem.W.Frag} {m : List Ty} {g : Gq} {pt : Pf}
end
section
variable {ι : Type} {Xf : ι → Cx} {P : Program} {w : World} {K : PySem.W.Frag} {mg : Str → Option Value} {base : Heap} {n : Nat} [F : Fam Xf P w K mg base n]
variable {m : List Ty} {pos p : Pos} {a : Expr} {g : Gq} {pt : Pf}
end
end DL
namespace DL
open PySem L2 PySem.Spec PyProof.Rows
def gChr : PyData → Option (List PyData)
  | .str z => some (z.cps.toList.map fun c => .str ⟨#[c]⟩)
  | _ => none
def iChr (f : Ef) : Lf := fun e => (f e).bind fun p => (gChr p.1).bind fun ds => some (ds, p.2)
@[simp] theorem riChr {f : Ef} {e : En} : iChr f e = (f e).bind fun p => (gChr p.1).bind fun ds => some (ds, p.2) := rfl
section
variable {ι : Type} {Xf : ι → Cx} {P : Program} {w : World} {K : PySem.W.Frag} {mg : Str → Option Value} {base : Heap} {n : Nat} [F : Fam Xf P w K mg base n]
variable {m m1 m2 : List Ty} {pos p apos : Pos} {a b tg : Expr} {rest : List Expr} {f g : Ef}
end
end DL
namespace DLQ
open PySem PyProof PySem.SeqAt PySem.MeetsSeq PySem.MeetsSeq2 PySem.MeetsSeq3
section
variable {A : Around} {s : Shared}
end
end DLQ
namespace DL
open PySem L2 PySem.Spec PyProof.Rows
section
variable {ι : Type} {Xf : ι → Cx} {P : Program} {w : World} {K : PySem.W.Frag} {mg : Str → Option Value} {base : Heap} {n : Nat} [F : Fam Xf P w K mg base n]
include F
end
end DL
namespace DL
open PySem L2 PySem.Spec
def gBlO : PyData → Option PyData
  | .bool b => some (.bool b)
  | _ => none
def eEqO (Fn : DFn) (f g : Ef) : Ef := fun e => (f e).bind fun p => (g p.2).bind fun q => (Fn [p.1, q.1]).bind fun r => (gBlO r.1).bind fun d => some (d, q.2)
@[simp] theorem rEqO' {Fn : DFn} {f g : Ef} {e : En} : eEqO Fn f g e = (f e).bind fun p => (g p.2).bind fun q => (Fn [p.1, q.1]).bind fun r => (gBlO r.1).bind fun d => some (d, q.2) := rfl
section
variable {ι : Type} {Xf : ι → Cx} {P : Program} {w : World} {K : PySem.W.Frag} {mg : Str → Option Value} {base : Heap} {n : Nat} [F : Fam Xf P w K mg base n] [FG : FamG Xf]
variable {C : Addr} {ns : List Str} {tys : List Ty} {rty : Ty} {Fn : DFn} {k : Nat}
end
section
variable {K : PySem.W.Frag} {m m1 m2 : List Ty} {C : Addr} {ns : List Str} {f g : Ef} {Fn : DFn}
end
section
variable {ι : Type} {Xf : ι → Cx} {P : Program} {w : World} {K : PySem.W.Frag} {mg : Str → Option Value} {base : Heap} {n : Nat} [F : Fam Xf P w K mg base n]
variable {m m1 m2 : List Ty} {pos p p2 xp : Pos} {a b : Expr} {f g : Ef} {C D : Addr} {ns : List Str} {ts : List Ty}
structure IsO (K : PySem.W.Frag) (mg : Str → Option Value) (C D : Addr) (y : Str) (t : Bool) : Prop where
  ca : PySem.W.findIn K (.ref C) "__class__" = some (some (.builtin "object.__class__"))
  cn : PySem.W.specialIn K (.builtin "object.__class__") "__get__" = some (some (.builtin "getset_descriptor.__get__"))
  ct : PySem.W.takesIn K (.builtin "object.__class__") = some true
  cm : PySem.W.mroIn K C (.type "object") = some true
  gy : mg y = some (.ref D)
  k1 : PySem.W.kitOne K (.ref C) (.ref D) = some t
end
end DL
namespace DL
open PySem L2 PySem.Spec
section
variable {K : PySem.W.Frag} {mg : Str → Option Value} {m m1 : List Ty} {W : WX} {fx : EfX} {ty : Ty}
end
section
variable {tw tG tb : CT} {call : Ef} {fx : EfX} {gg : PyData → Option PyData}
end
section
variable {ι : Type} {Xf : ι → Cx} {W : WX} {P : Program} {w : World} {K : PySem.W.Frag} {mg : Str → Option Value} {base : Heap} {n : Nat} [F : Fam Xf P w K mg base n]
variable {M : Mk} {m m1 mn mx : List Ty} {pos p p2 p3 cp zp bp : Pos} {a v : Expr} {tb tw tG : CT} {fx : EfX} {call : Ef} {gg : PyData → Option PyData} {ty : Ty} {jz : Nat}
end
end DL
namespace DL
open PySem L2 PySem.Spec
section
variable {ι : Type} {Xf : ι → Cx} {P : Program} {w : World} {K : PySem.W.Frag} {mg : Str → Option Value} {base : Heap} {n : Nat} [F : Fam Xf P w K mg base n] [FG : FamG Xf]
variable {m m1 : List Ty} {pos apos xp kpos : Pos} {C : Addr} {ns : List Str} {ts : List Ty} {ty0 : Ty} {a : Expr} {f : Ef}
end
end DL
namespace DL
open PySem L2 PySem.Spec
section
variable {K : PySem.W.Frag} {m mf : List Ty}
theorem DT.thaw {tt : TT} {f : Bf} (l : LeM m mf) (hs : ∀ t ∈ mf, stb t = true) (he : DT K mf tt f mf) (hp : PureB f) : DT K m tt f m := by
  intro G H σ e A b e' Q st hf k
  have z := hp _ _ _ hf
  subst z
  obtain ⟨G1, A1, s1, st1⟩ := stt_le l st
  have z1 := stab_nil st1.own hs
  subst z1
  refine he st1 hf fun G2 H2 A2 s2 st2 => ?_
  have z2 := stab_nil st2.own hs
  subst z2
  have at1 := ownA_at st.own
  have newA : ∀ a, G a = none → (∃ o, G1 a = some o) → a ∈ A := fun a h1 ⟨o, h2⟩ => by
    rcases s1.gnew a h1 ⟨o, h2⟩ with h | h
    · exact h
    · rw [st1.sub a o h2] at h; cases h
  have keep : ∀ a o, H a = some o → H2 a = some o := fun a o h => s2.fr a o h (by simp)
  have sg : Same G (fun b => if b ∈ A then none else G2 b) := fun b x hx => by
    have nb : b ∉ A := fun hb => by rw [(at1 b hb).1] at hx; cases hx
    show (if b ∈ A then none else G2 b) = some x
    rw [if_neg nb]
    exact s2.sg b x (s1.sg b x hx)
  refine k (fun b => if b ∈ A then none else G2 b) H2 A ⟨sg, fun a o h _ => keep a o h, fun a ha => .inl ha, fun a h1 ⟨o, h2⟩ => ?_⟩ ⟨ownA_fr st.own sg (fun a ha => if_pos ha) fun a ha => ?_, st.nd, fun b x hx => ?_⟩
  · by_cases ha : a ∈ A
    · exact .inl ha
    · have h2 : (if a ∈ A then none else G2 a) = some o := h2
      rw [if_neg ha] at h2
      by_cases g1 : G1 a = none
      · rcases s2.gnew a g1 ⟨o, h2⟩ with h | h
        · cases h
        · exact .inr h
      · obtain ⟨x, hx⟩ := Option.ne_none_iff_exists'.mp g1
        exact absurd (newA a h1 ⟨x, hx⟩) ha
  · obtain ⟨_, o, ho⟩ := at1 a ha
    rw [ho, keep a o ho]
  · have hx : (if b ∈ A then none else G2 b) = some x := hx
    by_cases hb : b ∈ A
    · rw [if_pos hb] at hx; cases hx
    · rw [if_neg hb] at hx; exact st2.sub b x hx
end
theorem pb_thaw {ι : Type} {Xf : ι → Cx} {K : PySem.W.Frag} {m : List Ty} (mf : List Ty) {a : Expr} {f : Bf} (l : LeM m mf) (hp : PureB f) (ha : PB Xf K mf a f mf) (hs : ∀ t ∈ mf, stb t = true := by decide) : PB Xf K m a f m := by
  obtain ⟨te, pe, de⟩ := ha.ex
  exact ⟨te, pe, DT.thaw l hs de hp⟩
section
variable {ι : Type} {Xf : ι → Cx} {P : Program} {w : World} {K : PySem.W.Frag} {mg : Str → Option Value} {base : Heap} {n : Nat} [F : Fam Xf P w K mg base n]
variable {m m1 m2 : List Ty} {pos : Pos} {a b : Expr} {f g : Ef} {C : Addr} {ns : List Str}
end
end DL
namespace DL
open PySem L2 PySem.Spec
def dcL (vs : List Nat) (gf : Gf) (tf : Bf) (kf vf : Ef) : List PyData → List (Int × PyData) → En → Option (List (Int × PyData) × En)
  | [], acc, e => some (acc, e)
  | d :: ds, acc, e => (gf d e).bind fun e1 => (tf e1).bind fun p => if p.1 = true then (kf p.2).bind fun q => (vf q.2).bind fun r => match q.1 with
    | .int i => dcL vs gf tf kf vf ds (putI acc i r.1) (restE e r.2 vs)
    | _ => none
    else dcL vs gf tf kf vf ds acc (restE e p.2 vs)
def eDc (it : Lf) (vs : List Nat) (gf : Gf) (tf : Bf) (kf vf : Ef) : Ef := fun e => (it e).bind fun p => (dcL vs gf tf kf vf p.1 [] p.2).bind fun q => some (.dict (q.1.map kvD), restE p.2 q.2 vs)
structure DcI (K : PySem.W.Frag) (mh : List Ty) (A1 : List Addr) (G1 H1 : Hp) (D : Addr) (ws : St) (Gc Hc : Hp) (e : En) (A : List Addr) (kvs : List (Int × V)) (acc : List (Int × PyData)) : Prop where
  step : Step A1 G1 H1 (D :: A) Gc Hc
  st : Stt K mh Gc Hc ws e A
  atD : Hc D = some (.dK (kvs.map kvV))
  gD : Gc D = none
  keys : kvs.map (·.1) = acc.map (·.1)
  q : DqA K Gc (kvs.map (·.2)) (acc.map (·.2))
  nd : (D :: A).Nodup
section
variable {K : PySem.W.Frag} {mh m2 : List Ty} {A1 : List Addr} {G1 H1 : Hp} {D : Addr} {ws : St}
theorem DcI.move {Gc Hc : Hp} {e : En} {A : List Addr} {kvs : List (Int × V)} {acc : List (Int × PyData)} (I : DcI K mh A1 G1 H1 D ws Gc Hc e A kvs acc) {B : List Addr} {G2 H2 : Hp} (s : Step A Gc Hc B G2 H2) (ndB : B.Nodup) :
    Step A1 G1 H1 (D :: B) G2 H2 ∧ (D :: B).Nodup ∧ H2 D = some (.dK (kvs.map kvV)) ∧ G2 D = none ∧ DqA K G2 (kvs.map (·.2)) (acc.map (·.2)) := by
  have o1 : ∀ a ∈ [D], Gc a = none ∧ ∃ o, Hc a = some o := fun a ha => by
    rw [List.mem_singleton.mp ha]
    exact ⟨I.gD, _, I.atD⟩
  obtain ⟨s3, nd3, hg, hh⟩ := Step.seq (Av := [D]) I.step o1 I.nd s ndB
  exact ⟨s3, nd3, by rw [hh D (List.mem_cons_self ..)]; exact I.atD, hg D (List.mem_cons_self ..), I.q.mono s.sg⟩
end
section
variable {ι : Type} {Xf : ι → Cx} {P : Program} {w : World} {K : PySem.W.Frag} {mg : Str → Option Value} {base : Heap} {n : Nat} [F : Fam Xf P w K mg base n]
variable {m m1 m2 m3 : List Ty} {pos p p2 tpos : Pos} {kx vx iter tg : Expr} {ifs : List Expr} {scope : Scope} {own : List (Str × Nat)} {sl : List Nat} {gf : Gf} {it : Lf} {tf : Bf} {kf vf : Ef}
theorem DE.dc {wk : Bool} {wi : L2.TI} {g : TG} {tt : TT} {tk tv : TE} {vs : List Nat} (hi : DI K wk m wi it m1) (hg : DG K wk (hideM m1 vs) g sl gf m2) (ht : DT K m2 tt tf m2) (hk : DE K m2 tk .s kf m2) (he : DE K m2 tv .s vf m2) (us : usB m1 vs = true) (hs : ∀ j ∈ sl, j ∈ vs) (le : LeM m2 (hideM m1 vs)) :
    DE K m (tDc wi g tt tk tv vs) .d (eDc it vs gf tf kf vf) m1 := by
  intro G H σ e A d e' Q st hf k
  unfold eDc at hf
  obtain ⟨⟨ds, e1⟩, hf1, hf⟩ := oBs hf
  obtain ⟨⟨rs, ef1⟩, hf2, hf⟩ := oBs hf
  cases hf
  refine hi st hf1 fun G1 H1 A1 J s1 st1 wk hz => ?_
  intro D hD
  have own1 := wipeA st1.own us
  have st1' : Stt K (hideM m1 vs) G1 H1 (wipe σ vs) e1 A1 := ⟨own1, st1.nd, st1.sub⟩
  obtain ⟨s2, st2, nd2, gD⟩ := new_o (o := .dK []) (B := []) st1' hD
  let T := fun (i : Nat) (Hc : Hp) => ∃ Gc ec A' kvs acc, DcI K (hideM m1 vs) A1 G1 H1 D (wipe σ vs) Gc Hc ec A' kvs acc ∧ kvs.length ≤ i ∧ dcL vs gf tf kf vf (ds.drop i) acc ec = some (rs, ef1)
  refine ⟨fun i mm Hc => mm = ds.length - i ∧ i ≤ ds.length ∧ T i Hc, ⟨ds.length, by omega, Nat.zero_le _, G1, e1, A1, [], [], ⟨s2, st2, upd_same, gD, rfl, DqA.nil, nd2⟩, Nat.le_refl _, hf2⟩, ?_⟩
  rintro i mm Hc ⟨rfl, hle, Gc, ec, A', kvs, acc, I, hda, hl⟩
  have sub1 : Same G1 Hc := I.step.sg.trans I.st.sub
  by_cases hi : i < ds.length
  · refine .inr ⟨wk.goes i Hc hi sub1, fun Hn => i < ds.length ∧ T (i + 1) Hn, fun Hn hn => ⟨ds.length - (i + 1), by omega, rfl, by omega, hn.2⟩, fun x Hy hy => ?_⟩
    obtain ⟨Gy, sy, sty, sgy, qy⟩ := wk.yields hi I.step.sg I.st hy
    have hd : ds.drop i = ds[i] :: ds.drop (i + 1) := List.drop_eq_getElem_cons hi
    rw [hd] at hl
    unfold dcL at hl
    obtain ⟨e2, hl1, hl⟩ := oBs hl
    obtain ⟨⟨b, e3⟩, hl2, hl⟩ := oBs hl
    refine hg sty (qy _ (List.getElem?_eq_getElem hi)) hl1 fun G3 H3 σ3 A3 s3 st3 k3 l3 => ⟨wipe_eq hs k3 l3, ?_⟩
    have wσ := wipe_eq hs k3 l3
    refine ht st3 hl2 fun G4 H4 A4 s4 st4 => ?_
    have s34 := (sy.seq0 s3).seq0 s4
    have next : ∀ (G5 H5 : Hp) (A5 : List Addr) (e5 : En), Stt K m2 G5 H5 σ3 e5 A5 → ∃ G6 A6, Step A5 G5 H5 A6 G6 H5 ∧ Stt K (hideM m1 vs) G6 H5 (wipe σ vs) (restE ec e5 vs) A6 := fun G5 H5 A5 e5 st5 => by
      obtain ⟨G6, A6, s6, st6⟩ := stt_le le st5
      refine ⟨G6, A6, s6, ⟨?_, st6.nd, st6.sub⟩⟩
      have hidem : ∀ (us : List Nat) (e' : En) (σ' : St) {A : List Addr} {H : Hp} {G : Hp} {mm : List Ty}, OwnA K G H mm e' σ' A → (∀ v ∈ us, mm[v]? = some .u) → OwnA K G H mm (restE ec e' us) (wipe σ' us) A := by
        intro us
        induction us with
        | nil => intro e' σ' A H G mm h _; exact h
        | cons v us ih =>
          intro e' σ' A H G mm h hu
          unfold restE wipe
          have hv := hu v (List.mem_cons_self ..)
          have a := ownA_set0 (t := .u) (d := ec.getD v .none) (v := none) h (.inl hv) (.u _ _)
          rw [set_id hv] at a
          have b := ih _ _ a fun x hx => hu x (List.mem_cons_of_mem _ hx)
          have c : wipe (σ'.set v none) us = (wipe σ' us).set v none := by
            clear ih a b hv hu h
            induction us with
            | nil => rfl
            | cons u us ihu =>
              unfold wipe
              rw [ihu]
              by_cases q : u = v
              · subst q; rfl
              · rw [List.set_comm _ _ (fun z => q z.symm)]
          rw [c] at b; exact b
      have hu : ∀ v ∈ vs, (hideM m1 vs)[v]? = some .u := by
        have aux : ∀ us : List Nat, usB m1 us = true → ∀ v ∈ us, (hideM m1 us)[v]? = some .u := by
          intro us
          induction us with
          | nil => intro _ v h; cases h
          | cons u us ih =>
            intro hus v hv
            obtain ⟨h1, h2, h3⟩ := us_cons hus
            unfold hideM
            by_cases q : u = v
            · subst q
              have : u < (hideM m1 us).length := by
                rw [← hideM_get (m := m1) h2] at h1
                rcases h1 with z | z <;> exact (List.getElem?_eq_some_iff.mp z).1
              simp [this]
            · rw [List.getElem?_set_ne q]
              rcases List.mem_cons.mp hv with z | z
              · exact absurd z.symm q
              · exact ih h3 v z
        exact aux vs us
      have := hidem vs e5 σ3 st6.own hu
      rw [wσ] at this
      exact this
    cases b with
    | true =>
      rw [if_pos rfl] at hl ⊢
      obtain ⟨⟨dk, e4⟩, hl3, hl⟩ := oBs hl
      obtain ⟨⟨dy, e5⟩, hl4, hl⟩ := oBs hl
      refine hk st4 hl3 fun G4' H4' yk Ak A4' s4' st4' o4' nd4' => ?_
      cases o4' with
      | s qk =>
      refine he st4' hl4 fun G5 H5 y Ay A5 s5 st5 o5 nd5 => ?_
      cases o5 with
      | s qv =>
      cases dk with
      | int ki =>
        obtain ⟨G6, A6, s6, st6⟩ := next G5 H5 A5 e5 st5
        obtain ⟨s7, nd7, atD, gD7, q7⟩ := I.move (((s34.seq0 s4').seq0 s5).seq0 s6) st6.nd
        have qv6 : Dq K G6 y dy := qv.mono s6.sg
        have hyk : yk = kV (Sum.inl ki) := dq_int qk
        have hz' : kvs.length < sizeLine := by omega
        have nD : ∀ a ∈ A6, a ≠ D := fun a ha z => (List.nodup_cons.mp nd7).1 (z ▸ ha)
        have frD : ∀ a, a ≠ D → upd H5 D (.dK ((putI kvs ki y).map kvV)) a = H5 a := fun a ha => upd_ne ha
        refine ⟨kvs.map kvV, Sum.inl ki, hyk, atD, by rw [List.length_map]; exact hz', hi, G6, restE ec e5 vs, A6, putI kvs ki y, putI acc ki dy, ?_, ?_, hl⟩
        · rw [putK_map]
          refine ⟨⟨s7.sg, fun a o h ha => ?_, fun a ha => s7.own a ha, s7.gnew⟩, ⟨ownA_fr st6.own (Same.refl _) (fun a ha => (ownA_at st6.own a ha).1) fun a ha => frD a (nD a ha), st6.nd, fun b x hx => ?_⟩, upd_same, gD7, putI_keys I.keys ki y dy, put_rel ki qv6 I.keys q7, nd7⟩
          · rw [frD a (ne_of_none h hD)]; exact s7.fr a o h ha
          · rw [frD b (ne_of_none hx gD7)]; exact st6.sub b x hx
        · have := putI_len kvs ki y
          omega
      | _ => cases hl
    | false =>
      rw [if_neg (by simp)] at hl ⊢
      obtain ⟨G6, A6, s6, st6⟩ := next G4 H4 A4 e3 st4
      obtain ⟨s7, nd7, atD, gD7, q7⟩ := I.move (s34.seq0 s6) st6.nd
      exact ⟨hi, G6, restE ec e3 vs, A6, kvs, acc, ⟨s7, st6, atD, gD7, I.keys, q7, nd7⟩, by omega, hl⟩
  · have hie : i = ds.length := by omega
    subst hie
    refine .inl ⟨wk.stops Hc sub1, ?_⟩
    rw [List.drop_length] at hl
    cases hl
    have un := unwipeA (e' := ef1) st1.own I.step.sg us I.st.own
    refine k Gc Hc (.ref D) [D] A' (s1.seq0 ⟨I.step.sg, I.step.fr, I.step.own, I.step.gnew⟩) ⟨un, I.st.nd, I.st.sub⟩ (.d I.gD I.atD I.keys I.q ?_) I.nd
    omega
end
end DL
namespace DL
open PySem L2 PySem.Spec
def gItems : PyData → Option (List PyData)
  | .dict kvs => some (kvs.map fun p => .tuple [p.1, p.2])
  | _ => none
def iItF (j k : Nat) : Lf := fun e => (gSub1 (qVar j) (qC (.int (k : Nat))) e).bind fun d => (gItems d).bind fun ds => some (ds, e)
@[simp] theorem riItF {j k : Nat} {e : En} : iItF j k e = (gSub1 (qVar j) (qC (.int (k : Nat))) e).bind fun d => (gItems d).bind fun ds => some (ds, e) := rfl
section
variable {K : PySem.W.Frag} {G H H' : Hp} {a : Addr} {o : Obj} {kvs : List (Int × V)} {C : Addr} {ns : List Str} {ts : List Ty}
end
section
variable {K : PySem.W.Frag} {m mn : List Ty} {M : Mk} {j k : Nat} {C : Addr} {ns : List Str} {tys : List Ty}
end
section
variable {ι : Type} {Xf : ι → Cx} {P : Program} {w : World} {K : PySem.W.Frag} {mg : Str → Option Value} {base : Heap} {n : Nat} [F : Fam Xf P w K mg base n]
variable {m m1 mn : List Ty} {M : Mk} {C : Addr} {ns : List Str} {tys : List Ty}
end
section
variable {K : PySem.W.Frag} {G H : Hp} {m : List Ty} {a : Addr} {o : Obj} {kvs : List (Int × V)} {C : Addr} {ns : List Str} {tys : List Ty} {fl : Str} {j k : Nat}
end
section
variable {ι : Type} {Xf : ι → Cx} {P : Program} {w : World} {K : PySem.W.Frag} {mg : Str → Option Value} {base : Heap} {n : Nat} [F : Fam Xf P w K mg base n]
variable {m : List Ty} {ad : Addr} {ob : Obj} {kvs : List (Int × V)} {C : Addr} {ns : List Str} {tys : List Ty} {fl : Str} {pos xp fpos apos cpos tpos : Pos} {elts : List Expr} {kk : Nat}
end
end DL
namespace DL
open PySem L2 PySem.Spec
structure CalMV (P : Program) (w : World) (K : PySem.W.Frag) (mg : Str → Option Value) (base : Heap) (k : Nat) (C : Addr) (x : Str) (ns : List Str) (ts tys : List Ty) (rty : Ty) (Fn : DFn) : Prop where
  ex : ∃ (f : Addr) (fd : FuncData) (ps : List Str), (∀ v : V, FnG P w K mg base k f fd ps (spD K (.o C ns (.k v .s :: ts) :: tys) rty Fn)) ∧ Meth K C x f ∧ Binds K fd ps []
section
variable {P : Program} {w : World} {K : PySem.W.Frag} {mg : Str → Option Value} {base : Heap} {k : Nat} {f : Addr} {fd : FuncData} {ps : List Str} {C : Addr} {x : Str} {ns : List Str} {ts tys : List Ty} {rty : Ty} {Fn : DFn}
theorem CalMV.at (c : CalMV P w K mg base k C x ns ts tys rty Fn) (v : V) : CalM P w K mg base k C x (.o C ns (.k v .s :: ts) :: tys) rty Fn := by
  obtain ⟨f, fd, ps, h, m, b⟩ := c.ex
  exact ⟨f, fd, ps, h v, m, b⟩
theorem spD_k {vs : List V} {H : Hp} {Q : VK} {E : XK} (h : spD K (.o C ns (.s :: ts) :: tys) rty Fn vs H Q E) : ∃ v, spD K (.o C ns (.k v .s :: ts) :: tys) rty Fn vs H Q E := by
  obtain ⟨ds, d, fs, G, A, hF, o, nd, sub, kont⟩ := h
  cases vs with
  | nil => cases o
  | cons v0 vs =>
    have o : OwnA K G H (.o C ns (.s :: ts) :: tys) ds (some v0 :: vs.map some) A := o
    cases o with
    | @cons _ _ d0 ds' _ _ A1 B1 o1 o2 =>
      cases o1 with
      | @o _ dx a _ _ fl es Ai ga gd ha hdx hn oi =>
        cases fl with
        | nil => cases oi
        | cons p fl =>
          have oi : OwnA K G H (.s :: ts) es (some p.2 :: fl.map fun p => some p.2) Ai := oi
          cases oi with
          | @cons _ _ d1 es' _ _ A2 B2 q1 q2 =>
            refine ⟨p.2, _, d, fs, G, _, hF, OwnA.cons (.o ga gd ha hdx hn (fs := p :: fl) (OwnA.cons (.k q1) q2)) o2, nd, sub, fun G' H' v Av A' s oA ov ndv sub' => ?_⟩
            have oA : OwnA K G' H' (.o C ns (.k p.2 .s :: ts) :: tys) fs (some (V.ref a) :: vs.map some) A' := oA
            refine kont G' H' v Av A' s ?_ ov ndv sub'
            cases oA with
            | @cons _ _ d2 fs' _ _ A3 B3 r1 r2 =>
              cases r1 with
              | @o _ dx2 a2 _ _ fl2 es2 Ai2 ga2 gd2 ha2 hdx2 hn2 oi2 =>
                cases fl2 with
                | nil => cases oi2
                | cons p2 fl2 =>
                  have oi2 : OwnA K G' H' (.k p.2 .s :: ts) es2 (some p2.2 :: fl2.map fun p => some p.2) Ai2 := oi2
                  cases oi2 with
                  | @cons _ _ d3 es3 _ _ A4 B4 u1 u2 =>
                    exact OwnA.cons (.o ga2 gd2 ha2 hdx2 hn2 (fs := p2 :: fl2) (OwnA.cons (own_of_k u1).2 u2)) r2
theorem CalMV.s (c : CalMV P w K mg base k C x ns ts tys rty Fn) : CalM P w K mg base k C x (.o C ns (.s :: ts) :: tys) rty Fn := by
  obtain ⟨f, fd, ps, h, m, b⟩ := c.ex
  refine ⟨f, fd, ps, ⟨fun vs H Q E z => ?_, fun A outer s H args us vs Q E r g e0 b v z => ?_⟩, m, b⟩
  · obtain ⟨v, z⟩ := spD_k z
    exact (h v).len vs H Q E z
  · obtain ⟨v', z⟩ := spD_k z
    exact (h v').run A outer s H args us vs Q E r g e0 b v z
end
section
variable {ι : Type} {Xf : ι → Cx} {P : Program} {w : World} {K : PySem.W.Frag} {mg : Str → Option Value} {base : Heap} {n : Nat} [F : Fam Xf P w K mg base n] [FG : FamG Xf]
variable {m m1 m2 : List Ty} {pos apos xp : Pos} {a : Expr} {es : List Expr} {fo : Ef} {fr : Lf} {tys : List Ty} {L : List (Option Nat)} {C : Addr} {ns : List Str} {ts : List Ty}
end
def gRem : PyData → PyData → Option PyData
  | .list ds, .int k => (intsOf ds).bind fun ns => if k ∈ ns then some (.list ((ns.erase k).map .int)) else none
  | _, _ => none
def eRemV (g : Gq) (pt : Pf) (gv : Gq) : Ef := fun e => (g e).bind fun d => (gv e).bind fun x => (gRem d x).bind fun d2 => some (.none, pt e d2)
@[simp] theorem rRemV {g gv : Gq} {pt : Pf} {e : En} : eRemV g pt gv e = (g e).bind fun d => (gv e).bind fun x => (gRem d x).bind fun d2 => some (.none, pt e d2) := rfl
section
variable {K : PySem.W.Frag} {m : List Ty}
end
section
variable {ι : Type} {Xf : ι → Cx} {P : Program} {w : World} {K : PySem.W.Frag} {mg : Str → Option Value} {base : Heap} {n : Nat} [F : Fam Xf P w K mg base n]
variable {m : List Ty} {apos cpos : Pos} {o v : Expr} {g gv : Gq} {pt : Pf}
end
end DL
namespace DL
open PySem L2 PySem.Spec
section
variable {ι : Type} {Xf : ι → Cx} {P : Program} {w : World} {K : PySem.W.Frag} {mg : Str → Option Value} {base : Heap} {n : Nat} [F : Fam Xf P w K mg base n]
variable {m : List Ty} {pos : Pos} {x : Str} {v : V}
end
end DL
namespace DL
open PySem L2 PySem.Spec
def eSrtP (g : Gq) : Ef := fun e => (g e).bind fun d => (gSorted d).bind fun r => some (r, e)
@[simp] theorem rSrtP {g : Gq} {e : En} : eSrtP g e = (g e).bind fun d => (gSorted d).bind fun r => some (r, e) := rfl
section
variable {K : PySem.W.Frag} {m : List Ty} {g : Gq} {pt : Pf}
end
section
variable {ι : Type} {Xf : ι → Cx} {P : Program} {w : World} {K : PySem.W.Frag} {mg : Str → Option Value} {base : Heap} {n : Nat} [F : Fam Xf P w K mg base n] [FG : FamG Xf]
variable {m : List Ty} {pos p : Pos} {a : Expr} {g : Gq} {pt : Pf}
end
end DL
namespace DL
open PySem L2 PySem.Spec PyProof.Rows
section
variable {P : Program} {w : World} {A : Around} {E : Value → Shared → Prop} {s : Shared}
end
section
variable {ι : Type} {Xf : ι → Cx} {P : Program} {w : World} {K : PySem.W.Frag} {mg : Str → Option Value} {base : Heap} {n : Nat} [F : Fam Xf P w K mg base n]
variable {m m1 : List Ty} {pos p pos2 p2 : Pos} {a : Expr} {f : Ef} {x y : Str}
include F
end
end DL
namespace DL
open PySem L2 PySem.Spec PyProof.Rows
section
variable {ι : Type} {Xf : ι → Cx} {P : Program} {w : World} {K : PySem.W.Frag} {mg : Str → Option Value} {base : Heap} {n : Nat} [F : Fam Xf P w K mg base n]
variable {m m1 : List Ty} {pos p pos2 p2 : Pos} {a : Expr} {f : Ef} {x y : Str}
include F
end
end DL
namespace DL
open PySem L2 PySem.Spec
def gOb (cn : Str) (ns : List Str) : PyData → Option PyData
  | .list ds => some (obD none cn ns ds)
  | _ => none
def bTys : List String := ["NoneType", "bool", "int", "str", "list", "tuple", "dict"]
structure IsTb (K : PySem.W.Frag) (mg : Str → Option Value) (D : Addr) (y : Str) (tb : List (Str × Bool)) : Prop where
  gy : mg y = some (.ref D)
  kb : ∀ T ∈ bTys, PySem.W.kitOne K (.type T) (.ref D) = some false
  ko : ∀ cn b, tb.lookup cn = some b → ∀ C, CnK K cn C → PySem.W.kitOne K (.ref C) (.ref D) = some b
section
variable {K : PySem.W.Frag} {m m1 : List Ty} {C : Addr} {cn : Str} {ns : List Str} {f : Ef}
theorem DE.ob {ta : TE} (c : CnK K cn C) (ha : DE K m ta (.f C ns) f m1) : DE K m ta .s (e1 (gOb cn ns) f) m1 := by
  intro G H σ e A d e' Q st hf k
  obtain ⟨⟨d1, e1⟩, hf1, hf⟩ := oBs hf
  obtain ⟨d2, hf2, hf⟩ := oBs hf
  cases hf
  refine ha st hf1 fun G1 H1 v1 A1 B1 s1 st1 o1 nd1 => ?_
  cases o1 with
  | @f _ dx a _ fs ds ga hn q =>
    cases hf2
    subst hn
    exact k G1 H1 (.ref a) [] B1 s1 st1 (.s (.ob none cn c ga (fun b h => by cases h) q.1 q.2)) st1.nd
end
section
variable {ι : Type} {Xf : ι → Cx} {P : Program} {w : World} {K : PySem.W.Frag} {mg : Str → Option Value} {base : Heap} {n : Nat} [F : Fam Xf P w K mg base n]
variable {m m1 : List Ty} {pos p p2 : Pos} {a : Expr} {f : Ef} {C D : Addr} {cn : Str} {ns : List Str} {ts : List Ty}
end
end DL
namespace DL
open PySem L2 PySem.Spec
section
variable {K : PySem.W.Frag} {mg : Str → Option Value} {C D : Addr} {cn y f : Str}
structure NotF (K : PySem.W.Frag) (C : Addr) (cs : List Str) : Prop where
  ne : PySem.W.findIn K (.ref C) "__ne__" = some (some (.builtin "object.__ne__"))
  kb : ∀ T ∈ bTys, PySem.W.notFirst K C (.type T) = true
  ko : ∀ cn ∈ cs, ∀ D, CnK K cn D → PySem.W.notFirst K C (.ref D) = true
end
end DL
namespace DL
open PySem PySem.Spec PyProof.Rows
section
variable {M : Model} {prog : Program} {w : World} {A : Around} {E : Value → Shared → Prop} {s : Shared} {K : PySem.W.Frag} {x C f : Addr} {ox : Obj} {od : Option Obj} {b tb : Value}
end
end DL
namespace DL
open PySem L2 PySem.Spec
def obIn (cs : List Str) : PyData → Bool
  | .dict [(.tuple _, .tuple (.str cn :: _))] => decide (cn ∈ cs)
  | _ => true
def obG (cs : List Str) (d : PyData) : Option Unit := if obIn cs d = true then some () else none
def eEqV (cs : List Str) (Fn : DFn) (f g : Ef) : Ef := fun e => (f e).bind fun p => (g p.2).bind fun q => (obG cs q.1).bind fun _ => (Fn [p.1, q.1]).bind fun r => (gBlO r.1).bind fun d => some (d, q.2)
def gNot1 : PyData → Option PyData
  | .bool b => some (.bool (!b))
  | _ => none
def eNeV (cs : List Str) (Fn : DFn) (f g : Ef) : Ef := e1 gNot1 (eEqV cs Fn f g)
@[simp] theorem rEqV' {cs : List Str} {Fn : DFn} {f g : Ef} {e : En} : eEqV cs Fn f g e = (f e).bind fun p => (g p.2).bind fun q => (obG cs q.1).bind fun _ => (Fn [p.1, q.1]).bind fun r => (gBlO r.1).bind fun d => some (d, q.2) := rfl
@[simp] theorem rNeV' {cs : List Str} {Fn : DFn} {f g : Ef} {e : En} : eNeV cs Fn f g e = ((f e).bind fun p => (g p.2).bind fun q => (obG cs q.1).bind fun _ => (Fn [p.1, q.1]).bind fun r => (gBlO r.1).bind fun d => some (d, q.2)).bind fun r => (gNot1 r.1).bind fun d => some (d, r.2) := rfl
section
variable {ι : Type} {Xf : ι → Cx} {P : Program} {w : World} {K : PySem.W.Frag} {mg : Str → Option Value} {base : Heap} {n : Nat} [F : Fam Xf P w K mg base n] [FG : FamG Xf]
variable {C : Addr} {tys : List Ty} {rty : Ty} {Fn : DFn} {k : Nat}
end
section
variable {K : PySem.W.Frag} {m m1 m2 : List Ty} {C : Addr} {ns : List Str} {f g : Ef} {Fn : DFn} {cs : List Str}
end
section
variable {ι : Type} {Xf : ι → Cx} {P : Program} {w : World} {K : PySem.W.Frag} {mg : Str → Option Value} {base : Heap} {n : Nat} [F : Fam Xf P w K mg base n]
variable {m m1 m2 : List Ty} {pos : Pos} {a b : Expr} {f g : Ef} {C : Addr} {ns : List Str} {cs : List Str}
end
end DL
namespace DL
open PySem L2 PySem.Spec
section
variable {ι : Type} {Xf : ι → Cx} {P : Program} {w : World} {K : PySem.W.Frag} {mg : Str → Option Value} {base : Heap} {n : Nat} [F : Fam Xf P w K mg base n] [FG : FamG Xf]
variable {m m1 : List Ty} {pos apos xp kpos : Pos} {a : Expr} {f : Ef} {C : Addr} {ns : List Str}
end
end DL
namespace DL
open PySem L2 PySem.Spec
def flatQ : Ty → PyData → Bool
  | .l .s, .list ds => ds.all (flatN 3)
  | .s, d => flatN 3 d
  | .d, .dict kvs => kvs.all fun p => sc1 p.2
  | _, _ => false
def borQ (rty : Ty) (Fn : DFn) : DFn := fun ds => (Fn ds).bind fun p => (grd (flatQ rty p.1)).bind fun _ => some (p.1, ds)
@[simp] theorem rBorQ {rty : Ty} {Fn : DFn} {ds : List PyData} : borQ rty Fn ds = (Fn ds).bind fun p => (grd (flatQ rty p.1)).bind fun _ => some (p.1, ds) := rfl
section
variable {P : Program} {w : World} {K : PySem.W.Frag} {mg : Str → Option Value} {base : Heap} {k : Nat} {f : Addr} {fd : FuncData} {ps : List Str} {tys tysF : List Ty} {rty : Ty} {Fn : DFn}
end
end DL
namespace DL
open PySem L2 PySem.Spec PyProof.Rows
def nmB (a : Addr) : PyData → PyData
  | .dict [(.tuple [_, b], t)] => .dict [(.tuple [.int (a : Nat), b], t)]
  | d => d
def nmD (a : Addr) : PyData → PyData
  | .tuple [d] => .tuple [nmB a d]
  | d => nmB a d
theorem dq_namedB {K : PySem.W.Frag} {G : Hp} {v : V} {d : PyData} (q : Dq K G v d) : ∃ a, Dq K G v (nmB a d) := by
  cases q with
  | non => exact ⟨0, .non⟩
  | bl b => exact ⟨0, .bl b⟩
  | int i => exact ⟨0, .int i⟩
  | str x h => exact ⟨0, .str x h⟩
  | lst h1 h2 h3 h4 => exact ⟨0, .lst h1 h2 h3 h4⟩
  | tup h1 h2 h3 h4 => exact ⟨0, .tup h1 h2 h3 h4⟩
  | dv h1 h2 h3 => exact ⟨0, .dv h1 h2 h3⟩
  | @dic a kvs h1 h2 h3 =>
    refine ⟨0, ?_⟩
    match kvs, h1, h2, h3 with
    | [], h1, h2, h3 => exact .dic (kvs := []) h1 h2 h3
    | [x], h1, h2, h3 => exact .dic (kvs := [x]) h1 h2 h3
    | x :: y :: l, h1, h2, h3 => exact .dic (kvs := x :: y :: l) h1 h2 h3
  | @ob a C dx fs ds o cn h1 h2 h3 h4 h5 => exact ⟨a, .ob (some a) cn h1 h2 (fun b e => (Option.some.inj e).symm) h4 h5⟩
theorem dq_named {K : PySem.W.Frag} {G : Hp} {v : V} {d : PyData} (q : Dq K G v d) : ∃ a, Dq K G v (nmD a d) := by
  by_cases h : ∃ d1, d = .tuple [d1]
  · obtain ⟨d1, rfl⟩ := h
    cases q with
    | @tup p xs ds h1 h2 h3 h4 =>
      match xs, h2, h1, h3, h4 with
      | [v1], h2, h1, h3, h4 =>
        obtain ⟨a, qa⟩ := dq_namedB (h4 0 v1 d1 rfl rfl)
        refine ⟨a, .tup h1 rfl h3 fun i v d hv hd => ?_⟩
        match i with
        | 0 => cases hv; cases hd; exact qa
        | i + 1 => simp at hv
  · obtain ⟨a, qa⟩ := dq_namedB q
    have e : nmD a d = nmB a d := by
      unfold nmD
      split
      · exact absurd ⟨_, rfl⟩ h
      · rfl
    exact ⟨a, by rw [e]; exact qa⟩
section
variable {K : PySem.W.Frag} {G H : Hp}
theorem ownA_setS {m : List Ty} {e : En} {σ : L2.St} {A : List Addr} (h : OwnA K G H m e σ A) {j : Nat} (hj : m[j]? = some .s) {v : V} (hv : σ[j]? = some (some v)) {d : PyData} (q : Dq K G v d) : OwnA K G H m (e.set j d) σ A := by
  have z := ownA_set0 h (.inr hj) (t := .s) (d := d) (v := some v) (.s q)
  rw [set_id hj, set_id hv] at z
  exact z
end
noncomputable def nmS {σ : Type} (x : PyData) (g : PyData → Option (PyData × σ)) : Option (Bool × σ) := open Classical in
  if h : ∃ p : Bool × σ, ∀ a : Addr, g (nmD a x) = some (.bool p.1, p.2) then some h.choose else none
noncomputable def eNm (j i : Nat) (f : Ef) : Ef := fun e => open Classical in
  (nmS (e.getD j .none) fun z => (f (e.set j z)).bind fun r => if r.2 = (e.set j z).set i (r.2.getD i .none) then some (r.1, r.2.getD i .none) else none).bind fun p => some (.bool p.1, e.set i p.2)
@[simp] theorem rNm {j i : Nat} {f : Ef} {e : En} : eNm j i f e = open Classical in
  (nmS (e.getD j .none) fun z => (f (e.set j z)).bind fun r => if r.2 = (e.set j z).set i (r.2.getD i .none) then some (r.1, r.2.getD i .none) else none).bind fun p => some (.bool p.1, e.set i p.2) := rfl
theorem DE.nm {K : PySem.W.Frag} {te : TE} {f : Ef} {m m1 : List Ty} {j i : Nat} (he : DE K m te .s f m1) (hj : m[j]? = some .s) (hj1 : m1[j]? = some .s) (ij : i ≠ j) : DE K m te .s (eNm j i f) m1 := by
  intro G H σ e A d e' Q st hf k
  obtain ⟨p, hp, hf2⟩ := oBs hf
  cases hf2
  unfold nmS at hp
  split at hp
  case isFalse => cases hp
  rename_i h0
  have sp := h0.choose_spec
  cases hp
  generalize h0.choose = p at sp k
  obtain ⟨d0, v0, hd, hv, q0⟩ := ownA_getS st.own hj
  have ed : e.getD j .none = d0 := by rw [List.getD_eq_getElem?_getD, hd]; rfl
  rw [ed] at sp
  obtain ⟨a, qa⟩ := dq_named q0
  obtain ⟨r, f1, f2⟩ := oBs (sp a)
  split at f2
  case isFalse => cases f2
  rename_i hr
  obtain ⟨r1, r2⟩ := r
  have hr : r2 = (e.set j (nmD a d0)).set i (r2.getD i .none) := hr
  have f2 : some (r1, r2.getD i .none) = some (PyData.bool p.1, p.2) := f2
  obtain ⟨b1, b2⟩ := Prod.mk.inj (Option.some.inj f2)
  subst b1
  rw [b2] at hr
  have hr : r2 = (e.set j (nmD a d0)).set i p.2 := hr
  refine he ⟨ownA_setS st.own hj hv qa, st.nd, st.sub⟩ f1 fun G' H' v Av A' s' st' o' nd' => ?_
  refine k G' H' v Av A' s' ?_ o' nd'
  have z := ownA_setS st'.own hj1 hv (q0.mono s'.sg)
  have e2 : r2.set j d0 = e.set i p.2 := by
    rw [hr, List.set_comm _ _ ij, List.set_set, set_id hd]
  rw [e2] at z
  exact ⟨z, st'.nd, st'.sub⟩
section
variable {ι : Type} {Xf : ι → Cx} {P : Program} {w : World} {K : PySem.W.Frag} {mg : Str → Option Value} {base : Heap} {n : Nat} [F : Fam Xf P w K mg base n] [FG : FamG Xf]
include F
end
end DL
namespace DL
open PySem L2 PySem.Spec
section
variable {ι : Type} {Xf : ι → Cx} {P : Program} {w : World} {K : PySem.W.Frag} {mg : Str → Option Value} {base : Heap} {n : Nat} [F : Fam Xf P w K mg base n]
variable {m m1 m2 : List Ty} {pos : Pos} {a b : Expr} {f g : Ef}
include F
end
section
variable {ι : Type} {Xf : ι → Cx} {P : Program} {w : World} {K : PySem.W.Frag} {mg : Str → Option Value} {base : Heap} {n : Nat} [F : Fam Xf P w K mg base n] [FG : FamG Xf]
variable {m m1 : List Ty} {pos apos xp : Pos} {a : Expr} {f : Ef} {tys : List Ty} {C : Addr} {ns : List Str} {ts : List Ty}
end
end DL
namespace DL
open PySem L2 PySem.Spec
section
variable {ι : Type} {Xf : ι → Cx} {P : Program} {w : World} {K : PySem.W.Frag} {mg : Str → Option Value} {base : Heap} {n : Nat} [F : Fam Xf P w K mg base n]
variable {m m1 : List Ty} {pos : Pos} {a : Expr} {f : Ef}
include F
end
end DL
namespace DL
open PySem L2 PySem.Spec
section
variable {prog : Program} {w : World} {A : Around} {E : Value → Shared → Prop} {s : Shared} {x1 : Addr}
end
section
variable {prog : Program} {w : World} {A : Around} {E : Value → Shared → Prop} {s : Shared} {x1 : Addr}
end
section
variable {X : Cx}
end
section
variable {X : Cx}
end
structure PItH {ι : Type} (Xf : ι → Cx) (K : PySem.W.Frag) (wk : Bool) (m : List Ty) (tg iter : Expr) (f : Lf) (m' : List Ty) : Prop where
  ex : ∃ wi : L2.TI, (∀ i, L2H.PIH (Xf i) tg iter wi) ∧ DI K wk m wi f m'
section
variable {ι : Type} {Xf : ι → Cx} {P : Program} {w : World} {K : PySem.W.Frag} {mg : Str → Option Value} {base : Heap} {n : Nat} [F : Fam Xf P w K mg base n] {a0 : Addr} {cls : Value} {d0 : Option Addr}
variable {m m1 m2 : List Ty} {pos : Pos} {a tg iter elt : Expr} {ifs : List Expr} {scope : Scope} {f ef : Ef} {tf : Bf} {it : Lf} {gf : Gf} {ty : Ty} {sl : List Nat}
end
end DL
namespace DL
open PySem L2 PySem.Spec PyProof.Rows
section
variable {P : Program} {w : World} {K : PySem.W.Frag} {mg mb : Str → Option Value} {k : Nat} {fa a : Addr} {fd : FuncData} {x : Str} {vs : List Value} {ns : List Int} {Fn : DFn}
theorem walk_ofX {l : PySem.W.OpenLaw} {n k : Nat} {q : Program} {loose : List Str} {XP : (Str → Option Value) → Heap → Prop} {YP : World → Heap → Prop} {d : DefRec} {x : Str}
    (hn : l.most = some n) (hn2 : n ≤ sizeLine) (hdf : d.params.defaults = []) (hr : Room k callerA)
    (F : ∀ (w : World) (mg : Str → Option Value) (fa : Addr) (h : Heap), YP w h → h.Ns mainGlobals mg → mg d.name = some (.ref fa) →
      ∃ (K : PySem.W.Frag) (fd : FuncData), K.In h ∧ (∀ (s : Shared) (u : Value), BindsTo s fd ⟨[u], []⟩ [(x, u)]) ∧ ∀ base : Heap, K.In base → base.Ns mainGlobals mg → FnG l.prog w K mg base k fa fd [x] (spD K [.q] .s Fn))
    (hF : ∀ ns : List Int, ns.length ≤ n → ∃ fs, Fn [.list (ns.map .int)] = some (.bool true, fs)) :
    PySem.W.WalkO q loose XP YP l.row.toRowW d [] (fun f vs => PySem.call f vs) :=
  Att.attach_call hn hdf fun w s₀ s₁ mg mb fa o pm cd doc a vs ns G Y ho hd hcd hmg hobj hints hlen hg => by
    obtain ⟨K, fd, KX, hb, hFn⟩ := F w mg fa _ Y G.T.g hmg
    exact law_callG KX G.T.g G.T.b G.T.builtins G.T.nolimit hg hobj hints (Nat.le_trans hlen hn2) hr hFn hb (hF ns hlen)
end
theorem all_at {l : List Bool} (h : l.all id = true) (i : Nat) {b : Bool} (e : l[i]? = some b := by rfl) : b = true :=
  List.all_eq_true.mp h b (List.mem_of_getElem? e)
theorem and1 {a b : Bool} (h : (a && b) = true) : a = true := (Bool.and_eq_true_iff.mp h).1
theorem and2 {a b : Bool} (h : (a && b) = true) : b = true := (Bool.and_eq_true_iff.mp h).2
section
variable {K : PySem.W.Frag} {fa : List He.Fa} {fn : List He.DefD}
theorem fun_ofD (c : He.SaysD fa fn K) (i : Nat) {p : Str × Option Str} {x qual : Str} {st : Stmt} (h : fn[i]? = some ⟨p, x, qual, defArgs st, defBody st, defScope st, [], []⟩ := by rfl) : ∃ fd, L2.Fun K x qual st (He.fAd K p) fd := by
  obtain ⟨fd, ⟨oc, od, dV, kV, doc, pm, an, cdv, ct, osl, e1, e2, e3, e4, _⟩, kp⟩ := c.def_ i h
  refine ⟨fd, ⟨oc, od, kV, doc, pm, an, cdv, ct, osl, ?_, e2, e3⟩, kp⟩
  rcases e4 with ⟨_, q⟩ | ⟨q, _⟩
  · rw [e1, q]
  · exact absurd rfl q
theorem ns_int {x : Str} {i : Int} (c : (He.Fa.int x i).ok K = true) : ∃ t, PySem.W.nsIn K mainGlobals x = some (some (.int i t)) := by
  have c2 : (match PySem.W.nsIn K mainGlobals x with
    | some (some (.int j _)) => decide (j = i)
    | _ => false) = true := c
  split at c2
  · rename_i j t e
    have := of_decide_eq_true c2
    subst this
    exact ⟨t, e⟩
  · cases c2
def oexB (n : String) (K : PySem.W.Frag) (C : Addr) : Bool := match K.lookup C with
  | some ⟨.type ty, _, .cls cd, sl⟩ => decide (ty = "type") && (match cd.mro with
    | c0 :: bm => decide (c0 = .ref C) && (cd.hasDict && (!cd.hasDel && decide (sl.size = 6 ∧ sl[4]? = some (some (.builtin n)))))
    | [] => false)
  | _ => false
def mroB (K : PySem.W.Frag) (C : Addr) : List Value := match K.lookup C with
  | some ⟨_, _, .cls cd, _⟩ => cd.mro.tail
  | _ => []
theorem slots6 {sl : Array (Option Value)} {v : Option Value} (h : sl.size = 6 ∧ sl[4]? = some v) : ∃ k0 k1 k2 k3 k5, sl = #[k0, k1, k2, k3, v, k5] := by
  obtain ⟨l⟩ := sl
  obtain ⟨h1, h2⟩ := h
  match l, h1, h2 with
  | [k0, k1, k2, k3, k4, k5], _, h2 =>
    have : k4 = v := by simpa using h2
    subst this
    exact ⟨_, _, _, _, _, rfl⟩
theorem oexB_ok {n : String} {C : Addr} (h : oexB n K C = true) : ∃ nm q N bs sn sub ab col dd k0 k1 k2 k3 k5, K.lookup C = some (excClassObj nm q C N bs (mroB K C) true sn sub ab col dd k0 k1 k2 k3 k5 n) := by
  unfold oexB at h
  unfold mroB
  split at h
  · rename_i ty dd cd sl e
    have h1 := of_decide_eq_true (and1 h)
    subst h1
    have h := and2 h
    obtain ⟨nm, bs, mro, N, q, hd, sn, sub, ab, col, hdel⟩ := cd
    match mro, h with
    | c0 :: bm, h =>
      have h2 := of_decide_eq_true (and1 h)
      subst h2
      have h3 : hd = true := and1 (and2 h)
      have h4 : (!hdel) = true := and1 (and2 (and2 h))
      obtain ⟨k0, k1, k2, k3, k5, h5⟩ := slots6 (of_decide_eq_true (and2 (and2 (and2 h))))
      subst h3 h5
      have h6 : hdel = false := by simpa using h4
      subst h6
      refine ⟨nm, q, N, bs, sn, sub, ab, col, dd, k0, k1, k2, k3, k5, ?_⟩
      rw [e]
      rfl
  · cases h
theorem oexc_of {C : Addr} (xl : oexB "ValueError.__new__" K C = true) (xy : PySem.HandSPX.refsVE (mroB K C) = true) (sa : PySem.W.findIn K (.ref C) "__setattr__" = some (some (.builtin "object.__setattr__"))) (eC : PySem.W.subIn K (.ref C) (.type "BaseException") = some true)
    (tC : PySem.W.typeIn K (.ref C) = some (.type "type")) (kC : PySem.W.keepIn K (.ref C) = true) : OexC K C := by
  obtain ⟨nm, q, N, bs, sn, sub, ab, col, dd, k0, k1, k2, k3, k5, e⟩ := oexB_ok xl
  exact ⟨⟨nm, q, N, bs, _, sn, sub, ab, col, dd, k0, k1, k2, k3, k5, e, xy⟩, sa, eC, tC, kC⟩
theorem oexl_of {C : Addr} (xl : oexB "LookupError.__new__" K C = true) (xy : mroB K C = leTail) (sa : PySem.W.findIn K (.ref C) "__setattr__" = some (some (.builtin "object.__setattr__"))) (eC : PySem.W.subIn K (.ref C) (.type "BaseException") = some true)
    (tC : PySem.W.typeIn K (.ref C) = some (.type "type")) (kC : PySem.W.keepIn K (.ref C) = true) : OexL K C := by
  obtain ⟨nm, q, N, bs, sn, sub, ab, col, dd, k0, k1, k2, k3, k5, e⟩ := oexB_ok xl
  rw [xy] at e
  exact oexl_mk e sa eC tC kC
end
end DL
namespace DL
open PySem L2 PySem.Spec PyProof.Rows
def putAt (m : Nat) : List Addr := mainGlobals :: (List.range m).reverse
def fragY (m : Nat) (g : Addr → Option Obj) : PySem.W.Frag := He.frT g (putAt m)
def obsY (m : Nat) (fn : List He.DefD) (ts : List He.Tab) (tf : List He.Defn) (ex : PySem.W.Frag → Bool) (g : Addr → Option Obj) : He.AlX := (He.obsT [] fn ts (fragY m g), ex (fragY m g) && He.tabsB g tf (fragY m g))
theorem sees_ofY {m : Nat} {fn : List He.DefD} {ts : List He.Tab} {tf : List He.Defn} {ex : PySem.W.Frag → Bool} {w : World} {h : Heap} (e : obsY m fn ts tf ex h.get? = He.valX fn ts w) : He.SaysX [] fn ts tf ex w h (fragY m h.get?) := by
  obtain ⟨e1, e2⟩ := Prod.mk.inj e
  obtain ⟨x1, x2⟩ := Bool.and_eq_true_iff.mp e2
  have per : ∀ p ∈ tf, PySem.W.codeHdIn (fragY m h.get?) (He.cT (fragY m h.get?) p).1 (He.cT (fragY m h.get?) p).2 = true ∧ ∃ o, h.get? (He.cT (fragY m h.get?) p).2 = some o ∧ He.emptyTab o = true := by
    intro p hp
    have x3 := List.all_eq_true.mp x2 p hp
    obtain ⟨x4, x5⟩ := Bool.and_eq_true_iff.mp x3
    refine ⟨x4, ?_⟩
    revert x5
    generalize h.get? (He.cT (fragY m h.get?) p).2 = oo
    intro x5
    match oo, x5 with
    | some o, x5 => exact ⟨o, rfl, x5⟩
  refine ⟨e1, x1, fun p hp => (per p hp).1, fun p hp => ?_, fun p hp => ?_⟩
  · obtain ⟨_, o, a1, a2⟩ := per p hp
    exact He.frT_none a1 a2
  · obtain ⟨_, o, a1, a2⟩ := per p hp
    exact a1.trans (congrArg some (He.emptyTab_eq a2))
def hookY (m : Nat) (fn : List He.DefD) (ts : List He.Tab) (tf : List He.Defn) (ex : PySem.W.Frag → Bool) : PySem.W.Hook where
  α := He.AlX
  obs := fun s => obsY m fn ts tf ex s.heap.get?
  val := fun w => He.valX fn ts w
  says := fun w h => ∃ K : PySem.W.Frag, K.In h ∧ He.SaysX [] fn ts tf ex w h K
  of := fun _ _ e => ⟨_, He.frT_in, sees_ofY e⟩
  keeps := (He.hookX 0 [] fn ts tf ex).keeps
theorem obsY_at {m : Nat} {fn : List He.DefD} {ts : List He.Tab} {tf : List He.Defn} {ex : PySem.W.Frag → Bool} (s : PySem.W.SharedT) : obsY m fn ts tf ex (HandSHeadRun.getT s) = (hookY m fn ts tf ex).obs s.abs :=
  congrArg (obsY m fn ts tf ex) (funext (HandSHeadRun.getT_eq s))
section
variable {r : PySem.W.OpenRow} {M m : Nat} {w : World} {α β : Type}
def Sees (r : PySem.W.OpenRow) (M : Nat) (w : World) (f : PySem.W.SharedT → α) (v : α) : Prop :=
  ∀ os : OsState, (HandSHeadRun.endF (HandSHeadRun.stepQ (HandSHeadRun.denQ HandSHeadRun.tabQ) r.prog w) M r.prog w os).map f = some v
theorem Sees.at_ {f : PySem.W.SharedT → α} {v : α} (h : Sees r M w f v) (os : OsState) : ∃ s, HandSHeadRun.endF (HandSHeadRun.stepQ (HandSHeadRun.denQ HandSHeadRun.tabQ) r.prog w) M r.prog w os = some s ∧ f s = v :=
  Option.map_eq_some_iff.mp (h os)
theorem Sees.and {f : PySem.W.SharedT → α} {g : PySem.W.SharedT → β} {a : α} {b : β} (h1 : Sees r M w f a) (h2 : Sees r M w g b) : Sees r M w (fun s => (f s, g s)) (a, b) := fun os => by
  obtain ⟨s, e, e1⟩ := h1.at_ os
  obtain ⟨s', e', e2⟩ := h2.at_ os
  rw [e] at e'
  cases e'
  rw [e, Option.map_some, e1, e2]
theorem Sees.to {f : PySem.W.SharedT → α} {g : PySem.W.SharedT → β} {a : α} {b : β} (h : Sees r M w f a) (k : ∀ s, f s = a → g s = b) : Sees r M w g b := fun os => by
  obtain ⟨s, e, e1⟩ := h.at_ os
  rw [e, Option.map_some, k s e1]
theorem Sees.tt {f g : PySem.W.SharedT → Bool} (h1 : Sees r M w f true) (h2 : Sees r M w g true) : Sees r M w (fun s => f s && g s) true :=
  (h1.and h2).to fun s e => by
    obtain ⟨e1, e2⟩ := Prod.mk.inj e
    rw [e1, e2] <;> rfl
def defY (m : Nat) (fn : List He.DefD) (s : PySem.W.SharedT) : He.AlD := He.obsD [] fn (fragY m (HandSHeadRun.getT s))
def boolY (m : Nat) (ex : PySem.W.Frag → Bool) (s : PySem.W.SharedT) : Bool := ex (fragY m (HandSHeadRun.getT s))
theorem Sees.defs {a b : List He.DefD} (h1 : Sees r M w (defY m a) (He.valD a)) (h2 : Sees r M w (defY m b) (He.valD b)) : Sees r M w (defY m (a ++ b)) (He.valD (a ++ b)) :=
  (h1.and h2).to fun s e => by
    obtain ⟨e1, e2⟩ := Prod.mk.inj e
    obtain ⟨x1, y1⟩ := Prod.mk.inj (show (_, _) = (_, _) from e1)
    obtain ⟨x2, y2⟩ := Prod.mk.inj (show (_, _) = (_, _) from e2)
    refine Prod.ext ?_ ?_
    · show ((a ++ b).all fun d => d.ok (fragY m (HandSHeadRun.getT s))) = true
      rw [List.all_append]
      exact Bool.and_eq_true_iff.mpr ⟨x1, x2⟩
    · show (a ++ b).map _ = (a ++ b).map _
      rw [List.map_append, List.map_append]
      exact congr (congrArg _ y1) y2
theorem Sees.all {fn : List He.DefD} {ex : PySem.W.Frag → Bool} (h1 : Sees r M w (defY m fn) (He.valD fn)) (h2 : Sees r M w (boolY m ex) true) : Sees r M w (fun s => obsY m fn [] [] ex (HandSHeadRun.getT s)) (He.valX fn [] w) :=
  (h1.and h2).to fun s e => by
    obtain ⟨e1, e2⟩ := Prod.mk.inj e
    refine Prod.ext (Prod.ext e1 rfl) ?_
    show (boolY m ex s && true) = true
    rw [e2]; rfl
theorem Sees.run {q : Program} {H : PySem.W.Hook} {ob : PySem.W.SharedT → H.α} {loose : List Str}
    (h1 : Sees r M w (fun s => (HandSHeadRun.looksF r.prog (PySem.W.boot_heap w.params) s.abs, HandSHeadRun.seenQ q loose (PySem.importedModules r.prog.main.body) (fun s => PySem.W.xlAt q [] s && PySem.W.recOk r.toRowW.records s) s.abs)) (true, PySem.W.openGood q loose))
    (h2 : Sees r M w ob (H.val w)) : HandSHeadRun.RunEq r q H ob M loose w :=
  (h1.and h2).to fun s e => by
    obtain ⟨e1, e2⟩ := Prod.mk.inj e
    obtain ⟨e3, e4⟩ := Prod.mk.inj e1
    exact Prod.ext e3 (Prod.ext e4 e2)
end
theorem fact_at {l : List Bool} (h : l.all id = true) (i : Nat) {p : Prop} {d : Decidable p} (e : l[i]? = some (@decide p d) := by rfl) : p := of_decide_eq_true (all_at h i e)
section
variable {K : PySem.W.Frag} {fa : List He.Fa} {fn : List He.DefD}
theorem fun_ofG (c : He.SaysD fa fn K) (i : Nat) {x y qual : Str} {st : Stmt} (h : fn[i]? = some ⟨(x, none), y, qual, defArgs st, defBody st, defScope st, [], []⟩ := by rfl) : ∃ fd, L2.Fun K y qual st (He.ga K x) fd := fun_ofD c i h
theorem fun_ofM (c : He.SaysD fa fn K) (i : Nat) {X m y qual : Str} {st : Stmt} (h : fn[i]? = some ⟨(X, some m), y, qual, defArgs st, defBody st, defScope st, [], []⟩ := by rfl) : ∃ fd, L2.Fun K y qual st (He.ma K (He.ga K X) m) fd := fun_ofD c i h
theorem ints_at {l : List Bool} (h : l.all id = true) (i : Nat) {x : Str} {n : Int} (e : l[i]? = some ((He.Fa.int x n).ok K) := by rfl) : ∃ t, PySem.W.nsIn K mainGlobals x = some (some (.int n t)) := ns_int (all_at h i e)
end
section
variable {K : PySem.W.Frag} {x qual : Str} {st : Stmt} {f : Addr} {fd : FuncData}
theorem bnd1 {p1 : Str} (F : L2.Fun K x qual st f fd) (h : ∀ (kV doc pm : Value) (an : Option Addr) (cdv ct u1 : Value), bindArgs (PySem.W.fnOf x qual (defArgs st) (defBody st) (defScope st) .none kV doc pm an cdv ct) ⟨[u1], []⟩ = pure (([p1] : List Str).zip [u1]) := by intros; rfl) : Binds K fd [p1] [] :=
  F.binds (ps := [p1]) fun kV doc pm an cdv ct us hl => match us, hl with | [u1], _ => h kV doc pm an cdv ct u1
theorem bnd2 {p1 p2 : Str} (F : L2.Fun K x qual st f fd) (h : ∀ (kV doc pm : Value) (an : Option Addr) (cdv ct u1 u2 : Value), bindArgs (PySem.W.fnOf x qual (defArgs st) (defBody st) (defScope st) .none kV doc pm an cdv ct) ⟨[u1, u2], []⟩ = pure (([p1, p2] : List Str).zip [u1, u2]) := by intros; rfl) : Binds K fd [p1, p2] [] :=
  F.binds (ps := [p1, p2]) fun kV doc pm an cdv ct us hl => match us, hl with | [u1, u2], _ => h kV doc pm an cdv ct u1 u2
theorem bnd3 {p1 p2 p3 : Str} (F : L2.Fun K x qual st f fd) (h : ∀ (kV doc pm : Value) (an : Option Addr) (cdv ct u1 u2 u3 : Value), bindArgs (PySem.W.fnOf x qual (defArgs st) (defBody st) (defScope st) .none kV doc pm an cdv ct) ⟨[u1, u2, u3], []⟩ = pure (([p1, p2, p3] : List Str).zip [u1, u2, u3]) := by intros; rfl) : Binds K fd [p1, p2, p3] [] :=
  F.binds (ps := [p1, p2, p3]) fun kV doc pm an cdv ct us hl => match us, hl with | [u1, u2, u3], _ => h kV doc pm an cdv ct u1 u2 u3
end
end DL
namespace DL
open PySem L2 PySem.Spec PyProof.Rows
def TabG (G : Hp) (q : Str) (ps : Array Value) : Prop := TriplesOk ps.toList ∧ ∀ (pos : Pos) (cv : Value), codeAmong pos ps.toList = some cv → ∃ c, cv = .ref c ∧ G c = some (LamX.CodeO c q)
section
variable {X : Cx} {pins : List (Addr × Obj)} {σ : L2.St} {H : Hp} {s : Shared}
end
structure LI {ι : Type} (Xf : ι → Cx) (scope : Scope) (n : Nat) (W : WX) where
  i : ι
  A : Around
  outer : List Env
  s : Shared
  H : Hp
  E : XK
  f : Addr
  c1 : Addr
  xe : Value → Shared → Prop
  rm : Room n (A.deeper (LamX.lamEnv (Xf i) scope s.heap.objs.size f c1))
  gd : (A.deeper (LamX.lamEnv (Xf i) scope s.heap.objs.size f c1)).guards = some []
  tk : L2N.Takes ((LamX.lamCx (Xf i) A outer s H E scope f c1).tr [] xe) W
  ps : PassesOwn (model (Xf i).prog (Xf i).w) (A.deeper (LamX.lamEnv (Xf i) scope s.heap.objs.size f c1)) (LamX.lamEnv (Xf i) scope s.heap.objs.size f c1) xe
def lamF {ι : Type} (Xf : ι → Cx) (scope : Scope) (n : Nat) (W : WX) : LI Xf scope n W → Cx := fun b => (LamX.lamCx (Xf b.i) b.A b.outer b.s b.H b.E scope b.f b.c1).tr [] b.xe
section
variable {ι : Type} {Xf : ι → Cx} {P : Program} {w : World} {K : PySem.W.Frag} {mg : Str → Option Value} {base : Heap} {n k : Nat} {W : WX} {scope : Scope}
instance [F : Fam Xf P w K mg base n] : Fam (lamF Xf scope k W) P w K mg base k :=
  ⟨fun b => F.prog b.i, fun b => F.w_ b.i, fun b => F.kk b.i, fun b => F.mg_ b.i, fun b => F.base_ b.i, fun b => b.rm.u, fun b => F.nd b.i⟩
instance : FamG (lamF Xf scope k W) := ⟨fun b => b.gd, fun b => rfl, fun b => b.rm.hd⟩
instance : FamN (lamF Xf scope k W) := ⟨fun b => b.ps⟩
instance : FamT (lamF Xf scope k W) W := ⟨fun b => b.tk⟩
end
section
variable {X : Cx} {pins : List (Addr × Obj)} {σ : L2.St} {H : Hp} {s : Shared}
end
end DL
namespace DL
open PySem L2 PySem.Spec PyProof.Rows
theorem TabG.mono {G G' : Hp} {q : Str} {ps : Array Value} (t : TabG G q ps) (e : Same G G') : TabG G' q ps := ⟨t.1, fun pos cv h => (t.2 pos cv h).imp fun _ z => ⟨z.1, e _ _ z.2⟩⟩
section
variable {K : PySem.W.Frag} {G H H1 : Hp} {m : List Ty} {σ : L2.St} {e : En} {A : List Addr} {P c1 : Addr} {q : Str} {pos : Pos} {ps : Array Value}
end
section
variable {X : Cx} {P : Program} {w : World} {K : PySem.W.Frag} {mg : Str → Option Value} {base : Heap} {n : Nat} [F : Fam (oneX X) P w K mg base n]
variable {pins : List (Addr × Obj)} {σ : L2.St} {H : Hp} {s : Shared}
end
structure Giv (P : Program) (w : World) (K : PySem.W.Frag) (mg : Str → Option Value) (base : Heap) (k : Nat) (x : Str) (st : Stmt) (Ng : List Str) (a : Str) (tb : CT) (sf : Sf) (r : Nat) : Prop where
  run : ∀ (Φ : Hp → Hp → PyData → V → List Addr → Prop) (g : Addr) (cdv : Value) (A : Around) (outer : List Env) (s : Shared) (H : Hp) (E : XK), Fam (oneX (cxOf CX0 P w K mg base Ng x (defScope st) g cdv A outer s H E).nox) P w K mg base k → FamG (oneX (cxOf CX0 P w K mg base Ng x (defScope st) g cdv A outer s H E).nox) → FamN (oneX (cxOf CX0 P w K mg base Ng x (defScope st) g cdv A outer s H E).nox) →
    (∀ (W : WX) (m : List Ty) (p1 p2 : Pos), m[0]? = some (.g Φ) → PDX (tryF (oneX (cxOf CX0 P w K mg base Ng x (defScope st) g cdv A outer s H E).nox) W) W K mg m (.Call (.Name a p1) [] [] p2) .s (xDec tb (eVar 0)) m) →
    ∃ mr, PSsd (oneX (cxOf CX0 P w K mg base Ng x (defScope st) g cdv A outer s H E).nox) K ⟨[], [], mr, [], .s⟩ (.g Φ :: List.replicate r .u) (defBody st) sf mr
structure CalL (P : Program) (w : World) (K : PySem.W.Frag) (mg : Str → Option Value) (base : Heap) (k : Nat) (x : Str) (tb : CT) (sf : Sf) (r : Nat) : Prop where
  ex : ∃ (st : Stmt) (g : Addr) (fd : FuncData) (Ng : List Str) (a : Str), Giv P w K mg base k x st Ng a tb sf r ∧ L2.Fun K x x st g fd ∧ mg x = some (.ref g) ∧ Binds K fd [a] [] ∧ FnScope Ng [a] (defScope st) ∧ Ng.length = 1 + r ∧ Ng[0]? = some a ∧ Vis (defScope st) a ∧ (a == ("__debug__" : Str)) = false ∧ (a == ("__classdict__" : Str)) = false
section
variable {ι : Type} {Xf : ι → Cx} {P : Program} {w : World} {K : PySem.W.Frag} {mg : Str → Option Value} {base : Heap} {n : Nat} [F : Fam Xf P w K mg base n] [FG : FamG Xf]
variable {m : List Ty} {p pos lpos : Pos}
end
end DL
namespace DL
open PySem L2 PySem.Spec PyProof.Rows
section
variable {P : Program} {w : World} {K : PySem.W.Frag} {mg mb : Str → Option Value} {k : Nat} {fa a c Pt : Addr} {fd : FuncData} {x : Str} {s₁ : Shared} {vs : List Value} {ns : List Int} {Fn : DFn}
end
end DL
namespace DL
open PySem L2 PySem.Spec PyProof.Rows
section
variable {r : PySem.W.OpenRow} {M m : Nat} {w : World}
end
end DL
namespace DL
open PySem L2 PySem.Spec PyProof.Rows
section
variable {X : Cx}
end
section
variable {ι : Type} {Xf : ι → Cx} {P : Program} {w : World} {K : PySem.W.Frag} {mg : Str → Option Value} {base : Heap} {n : Nat} [F : Fam Xf P w K mg base n]
variable {m m1 m2 : List Ty} {pos p apos : Pos} {a b : Expr} {rest : List Expr} {f g : Ef}
end
structure PALT {ι : Type} (Xf : ι → Cx) (K : PySem.W.Frag) (m : List Ty) (es : List Expr) (tys : List Ty) (L : List (Option Nat)) (f : Lf) (m' : List Ty) : Prop where
  ex : ∃ ta : TA, (∀ i, PAT (Xf i) es ta) ∧ DAL K m ta tys L f m'
section
variable {X : Cx} {a b o : Expr} {es : List Expr} {ta tb to : TE} {tr : TA} {y z : Str} {j k : Nat} {c0 c1 apos pos p : Pos}
end
section
variable {ι : Type} {Xf : ι → Cx} {P : Program} {w : World} {K : PySem.W.Frag} {mg : Str → Option Value} {base : Heap} {n : Nat} [F : Fam Xf P w K mg base n]
variable {m m1 m2 : List Ty} {apos pos c0 c1 : Pos} {a o : Expr} {es : List Expr} {f : Ef} {fr : Lf} {tys : List Ty} {L : List (Option Nat)} {ty : Ty} {y z : Str} {j k : Nat}
end
end DL
namespace DL
open PySem L2 PySem.Spec
def XAt (G : Hp) (a D : Addr) : Prop := (∃ dx fs, G a = some (exo a D (some dx)) ∧ G dx = some (exd dx fs)) ∨ G a = some (ExO (.ref D) a)
theorem XAt.mono {G G' : Hp} {a D : Addr} (h : XAt G a D) (s : Same G G') : XAt G' a D := by
  rcases h with ⟨dx, fs, h1, h2⟩ | h
  · exact .inl ⟨dx, fs, s _ _ h1, s _ _ h2⟩
  · exact .inr (s _ _ h)
def XvΦ (mg : Str → Option Value) : Hp → Hp → PyData → V → List Addr → Prop := fun G _ d v A => A = [] ∧ ∃ (a D : Addr) (c : Str) (ds : List PyData), v = .ref a ∧ d = .tuple (.str c :: ds) ∧ mg c = some (.ref D) ∧ XAt G a D
theorem xvOk {mg : Str → Option Value} : GOk (XvΦ mg) where
  at_ := fun ⟨z, _⟩ a ha => by subst z; cases ha
  kd := fun ⟨z, _⟩ a ha => by subst z; cases ha
  fr := fun ⟨z, a, D, c, ds, h1, h2, h3, h4⟩ sg _ _ => ⟨z, a, D, c, ds, h1, h2, h3, h4.mono sg⟩
theorem xv_new {K : PySem.W.Frag} {mg : Str → Option Value} {G H : Hp} {a D : Addr} {c : Str} {ds : List PyData} (hm : mg c = some (.ref D)) (h : XAt G a D) : Own K G H (.g (XvΦ mg)) (.tuple (.str c :: ds)) (some (.ref a)) [] := .g xvOk ⟨rfl, a, D, c, ds, rfl, rfl, hm, h⟩
def tMkE (C : Addr) (sp : Sp) (ta : TA) : TE := fun σ H Q => ta σ H fun vs H1 => vs.length ≤ 1000 ∧ ∀ z, H1 z = none → sp (.ref z :: vs) (upd H1 z (exo z C none)) (fun v H' => v = .non ∧ Q (.ref z) H') E0
structure ExcV (P : Program) (w : World) (K : PySem.W.Frag) (mg : Str → Option Value) (base : Heap) (k : Nat) (x : Str) (flds : List Str) : Prop where
  ex : ∃ C : Addr, mg x = some (.ref C) ∧ ∀ (X : Cx) (a : Expr) (es : List Expr) (ta : TA) (p pos : Pos), X.prog = P → X.w = w → X.K = K → X.mg = mg → X.base = base → Room (k + 1) X.A → Gl X x → PA X (a :: es) ta → (x == ("__debug__" : Str)) = false →
    starEach (a :: es) X.env = (false, eval a X.env) :: starEach es X.env → (backTo pos (starEach es X.env)).any (·.1) = false → PE X (.Call (.Name x p) (a :: es) [] pos) (tMkE C (spIn C flds) ta)
section
variable {X : Cx} {e : Expr} {es : List Expr} {ta : TA} {p pos : Pos}
theorem pe_oexV {x : Str} {C fI : Addr} {k : Nat} {fd : FuncData} {ps : List Str} {sp : Sp} (T : OexC X.K C) (iC : PySem.W.findIn X.K (.ref C) "__init__" = some (some (.ref fI))) (tI : PySem.W.typeIn X.K (.ref fI) = some (.type "function"))
    (FI : FnOk X.prog X.w X.K X.mg X.base CX0 k fI fd ps sp) (room : Room (k + 1) X.A) (bd : Binds X.K fd ps []) (hg : Gl X x) (hm : X.mg x = some (.ref C)) (ha : PA X (e :: es) ta)
    (hdb : (x == ("__debug__" : Str)) = false) (he : starEach (e :: es) X.env = (false, eval e X.env) :: starEach es X.env) (hpl : (backTo pos (starEach es X.env)).any (·.1) = false) :
    PE X (.Call (.Name x p) (e :: es) [] pos) (tMkE C sp ta) := by
  refine ⟨fun pins s σ H Q I h => ?_⟩
  obtain ⟨nm, q, N, bs, bm, sn, sub, ab, col, dd, k0, k1, k2, k3, k5, hC, hbm⟩ := T.cls
  refine wpAny_Call_Name_kw (ld_glob I hg hm ?_ hdb)
  refine PySem.W.callWith_K (h₀ := X.base) I.ok.mod.kin T.kC (thn (ha.run pos pins s σ H _ I h) fun us s1 hu => ?_) he hpl
  obtain ⟨vs, H1, I1, r1, hz, wish⟩ := hu
  refine ⟨I1.kIn, ?_⟩
  show wpAny _ _ (call (.ref C) us) _ _ _
  obtain ⟨hh, gg, dr, tk, oo⟩ := s1
  have up1 : hh.objs.size ≤ newAt hh := Nat.le_succ _
  have w2 := wish (newAt hh) (I1.hok.fresh up1)
  have keep : ∀ b o, hh.get? b = some o → (grownBy hh us C).get? b = some o := fun b o z => Heap.get?_push_of_some _ (Heap.get?_push_of_some _ z)
  have at2 : (grownBy hh us C).get? (newAt hh) = some (PySem.HandSPX.excO C hh.objs.size) := by
    show ((hh.push (PySem.W.kdv_tup us)).push (PySem.HandSPX.excO C hh.objs.size)).get? (hh.objs.size + 1) = _
    heap_get
  have I2 : L2.Inv X pins σ (upd H1 (newAt hh) (exo (newAt hh) C none)) ⟨grownBy hh us C, gg, dr, tk, oo⟩ := I1.laid (t' := tk) keep up1 (exo_ok at2)
  have r2 : Vals (V.ref (newAt hh) :: vs) (Value.ref (newAt hh) :: us) := .cons rfl r1
  have len2 : (Value.ref (newAt hh) :: us).length = ps.length := r2.length.symm.trans (FI.len _ _ _ _ w2)
  have small : us.length ≤ sizeLine := by rw [← Paired.length r1, sizeLine_eq]; omega
  refine wpAny_call (PySem.HandSPX.call_own PySem.F.excBase_ValueError (fun Y => PySem.HandSPX.refsVE_contains Y bm hbm) (I1.kIn _ _ hC) (PySem.W.looks_findIn I1.kIn iC) (fun self => PySem.W.bind_fn I1.kIn self tI) small ?_)
  refine codeAny_mono (FI.run _ X.stack _ _ ⟨Value.ref (newAt hh) :: us, []⟩ (Value.ref (newAt hh) :: us) _ _ E0 (room.make C us []) (I2.env0.make C us []) (by have b2 := bd ⟨grownBy hh us C, gg, dr, tk, oo⟩ (Value.ref (newAt hh) :: us) I2.kIn (by simpa using len2); rw [List.append_nil] at b2; exact b2) r2 w2) fun r s' z => ?_
  match r, z with
  | .error er, z => exact (show False from z).elim
  | .ok .next, z => exact z.elim
  | .ok .brk, z => exact z.elim
  | .ok .cont, z => exact z.elim
  | .ok (.ret u), z =>
    obtain ⟨v, H2, o2, bare, un, hok, rv, ev, q2⟩ := z
    subst ev
    exact ⟨rv, .ref (newAt hh), H2, I2.call' (ch := []) o2 un hok bare (fun b z => absurd z (by simp)), rfl, q2⟩
theorem pe_oexlV {x : Str} {C fI : Addr} {k : Nat} {fd : FuncData} {ps : List Str} {sp : Sp} (T : OexL X.K C) (iC : PySem.W.findIn X.K (.ref C) "__init__" = some (some (.ref fI))) (tI : PySem.W.typeIn X.K (.ref fI) = some (.type "function"))
    (FI : FnOk X.prog X.w X.K X.mg X.base CX0 k fI fd ps sp) (room : Room (k + 1) X.A) (bd : Binds X.K fd ps []) (hg : Gl X x) (hm : X.mg x = some (.ref C)) (ha : PA X (e :: es) ta)
    (hdb : (x == ("__debug__" : Str)) = false) (he : starEach (e :: es) X.env = (false, eval e X.env) :: starEach es X.env) (hpl : (backTo pos (starEach es X.env)).any (·.1) = false) :
    PE X (.Call (.Name x p) (e :: es) [] pos) (tMkE C sp ta) := by
  refine ⟨fun pins s σ H Q I h => ?_⟩
  obtain ⟨nm, q, N, bs, sn, sub, ab, col, dd, k0, k1, k2, k3, k5, hC⟩ := T.cls
  refine wpAny_Call_Name_kw (ld_glob I hg hm ?_ hdb)
  refine PySem.W.callWith_K (h₀ := X.base) I.ok.mod.kin T.kC (thn (ha.run pos pins s σ H _ I h) fun us s1 hu => ?_) he hpl
  obtain ⟨vs, H1, I1, r1, hz, wish⟩ := hu
  refine ⟨I1.kIn, ?_⟩
  show wpAny _ _ (call (.ref C) us) _ _ _
  obtain ⟨hh, gg, dr, tk, oo⟩ := s1
  have up1 : hh.objs.size ≤ newAt hh := Nat.le_succ _
  have w2 := wish (newAt hh) (I1.hok.fresh up1)
  have keep : ∀ b o, hh.get? b = some o → (grownBy hh us C).get? b = some o := fun b o z => Heap.get?_push_of_some _ (Heap.get?_push_of_some _ z)
  have at2 : (grownBy hh us C).get? (newAt hh) = some (PySem.HandSPX.excO C hh.objs.size) := by
    show ((hh.push (PySem.W.kdv_tup us)).push (PySem.HandSPX.excO C hh.objs.size)).get? (hh.objs.size + 1) = _
    heap_get
  have I2 : L2.Inv X pins σ (upd H1 (newAt hh) (exo (newAt hh) C none)) ⟨grownBy hh us C, gg, dr, tk, oo⟩ := I1.laid (t' := tk) keep up1 (exo_ok at2)
  have r2 : Vals (V.ref (newAt hh) :: vs) (Value.ref (newAt hh) :: us) := .cons rfl r1
  have len2 : (Value.ref (newAt hh) :: us).length = ps.length := r2.length.symm.trans (FI.len _ _ _ _ w2)
  have small : us.length ≤ sizeLine := by rw [← Paired.length r1, sizeLine_eq]; omega
  refine wpAny_call (PySem.HandSPX.call_own PySem.F.excBase_LookupError (fun Y => rfl) (I1.kIn _ _ hC) (PySem.W.looks_findIn I1.kIn iC) (fun self => PySem.W.bind_fn I1.kIn self tI) small ?_)
  refine codeAny_mono (FI.run _ X.stack _ _ ⟨Value.ref (newAt hh) :: us, []⟩ (Value.ref (newAt hh) :: us) _ _ E0 (room.make C us []) (I2.env0.make C us []) (by have b2 := bd ⟨grownBy hh us C, gg, dr, tk, oo⟩ (Value.ref (newAt hh) :: us) I2.kIn (by simpa using len2); rw [List.append_nil] at b2; exact b2) r2 w2) fun r s' z => ?_
  match r, z with
  | .error er, z => exact (show False from z).elim
  | .ok .next, z => exact z.elim
  | .ok .brk, z => exact z.elim
  | .ok .cont, z => exact z.elim
  | .ok (.ret u), z =>
    obtain ⟨v, H2, o2, bare, un, hok, rv, ev, q2⟩ := z
    subst ev
    exact ⟨rv, .ref (newAt hh), H2, I2.call' (ch := []) o2 un hok bare (fun b z => absurd z (by simp)), rfl, q2⟩
end
theorem excV_C {P : Program} {w : World} {K : PySem.W.Frag} {mg : Str → Option Value} {base : Heap} {k : Nat} {x : Str} {flds : List Str} (T : ExcT P w K mg base k x flds) : ExcV P w K mg base k x flds := by
  obtain ⟨C, fI, fd, ps, OX, gC, iC, tI, FI, bI⟩ := T.ex
  refine ⟨C, gC, fun X a es ta p pos e1 e2 e3 e4 e5 hr hg ha hdb he hpl => ?_⟩
  subst e1 e2 e3 e4 e5
  exact pe_oexV OX iC tI FI hr bI hg gC ha hdb he hpl
theorem excV_L {P : Program} {w : World} {K : PySem.W.Frag} {mg : Str → Option Value} {base : Heap} {k : Nat} {x : Str} {flds : List Str} {C fI : Addr} {fd : FuncData} {ps : List Str} (OX : OexL K C) (gC : mg x = some (.ref C)) (iC : PySem.W.findIn K (.ref C) "__init__" = some (some (.ref fI)))
    (tI : PySem.W.typeIn K (.ref fI) = some (.type "function")) (FI : FnOk P w K mg base CX0 k fI fd ps (spIn C flds)) (bI : Binds K fd ps []) : ExcV P w K mg base k x flds := by
  refine ⟨C, gC, fun X a es ta p pos e1 e2 e3 e4 e5 hr hg ha hdb he hpl => ?_⟩
  subst e1 e2 e3 e4 e5
  exact pe_oexlV OX iC tI FI hr bI hg gC ha hdb he hpl
structure ExcVZ (P : Program) (w : World) (K : PySem.W.Frag) (mg : Str → Option Value) (x : Str) : Prop where
  ex : ∃ C : Addr, mg x = some (.ref C) ∧ ∀ (X : Cx) (p pos : Pos), X.prog = P → X.w = w → X.K = K → X.mg = mg → Gl X x → (x == ("__debug__" : Str)) = false → PE X (.Call (.Name x p) [] [] pos) (fun _ H Q => ∀ a, H a = none → Q (.ref a) (upd H a (ExO (.ref C) a)))
theorem excVZ_mk {P : Program} {w : World} {K : PySem.W.Frag} {mg : Str → Option Value} {x : Str} {C : Addr} {bmB : List Value} {B newId initId : String} (F : ExcBaseFacts B newId initId bmB) (q : PySem.W.excIn K C bmB newId = true) (gC : mg x = some (.ref C)) (kC : PySem.W.keepIn K (.ref C) = true) : ExcVZ P w K mg x := by
  refine ⟨C, gC, fun X p pos e1 e2 e3 e4 hg hd => ?_⟩
  subst e1 e2 e3 e4
  refine ⟨fun pins s σ H Q I h => ?_⟩
  refine wpAny_Call_Name_kw (ld_glob I hg gC ?_ hd)
  refine PySem.W.callWith_K0 I.kIn kC ?_
  show wpAny _ _ (call (.ref C) []) _ _ _
  obtain ⟨bm, N, nm, qn, bs, hdct, sn, sub, ab, col, dd, k0, k1, k2, k3, k5, mN, hC, hN, hni, T⟩ := exc_obj I.kIn q
  refine wpAny_call_exc_subT F T hC hN hni (fun h' a hm => ?_) (Nat.zero_le _)
  have hn : H a = none := I.hok.gone hm.new
  obtain ⟨t, ht, _, _⟩ := hm.there
  exact ⟨.ref a, upd H a (ExO (.ref C) a), I.laidN hm.keeps hm.new hn (exO_ok ht ⟨rfl, rfl⟩ rfl rfl rfl (show 4 < 6 by decide)), rfl, h a hn⟩
def gFldV (flds : List Str) (f : Str) : PyData → Option PyData
  | .tuple ds => (flds.zip ds).lookup f
  | _ => none
theorem lookup_memV {l : List (Str × V)} {c : Str} {b : V} (h : l.lookup c = some b) : (c, b) ∈ l := by
  induction l with
  | nil => cases h
  | cons p r ih =>
    obtain ⟨d, e⟩ := p
    rw [List.lookup_cons] at h
    cases q : c == d with
    | true => rw [q] at h; cases h; rw [eq_of_beq q]; exact List.mem_cons_self ..
    | false => rw [q] at h; exact List.mem_cons_of_mem _ (ih h)
theorem lookup_nd {l : List (Str × V)} {c : Str} {b : V} (nd : (l.map (·.1)).Nodup) (h : (c, b) ∈ l) : l.lookup c = some b := by
  induction l with
  | nil => cases h
  | cons p r ih =>
    obtain ⟨d, e⟩ := p
    rw [List.lookup_cons]
    rw [List.map_cons] at nd
    obtain ⟨n1, n2⟩ := List.nodup_cons.mp nd
    rcases List.mem_cons.mp h with z | z
    · cases z
      rw [beq_self_eq_true]
    · have : (c == d) = false := beq_eq_false_iff_ne.mpr fun y => n1 (by rw [← y]; exact List.mem_map.mpr ⟨(c, b), z, rfl⟩)
      rw [this]
      exact ih n2 z
theorem lookup_rev {l : List (Str × V)} {c : Str} {b : V} (nd : (l.map (·.1)).Nodup) (h : l.lookup c = some b) : l.reverse.lookup c = some b :=
  lookup_nd (by rw [List.map_reverse]; exact List.pairwise_reverse.mpr (List.Pairwise.imp (fun z y => z y.symm) nd)) (List.mem_reverse.mpr (lookup_memV h))
def IsV (K : PySem.W.Frag) (mg : Str → Option Value) (rt : List (Str × Bool)) (cv : Value) : Prop := ∀ c b, rt.lookup c = some b → ∃ D, mg c = some (.ref D) ∧ ExcC K D ∧ PySem.W.kitOne K (.ref D) cv = some b
def refOf : Option (Option Value) → Option Addr
  | some (some (.ref D)) => some D
  | _ => none
theorem refOf_eq {o : Option (Option Value)} {D : Addr} (h : refOf o = some D) : o = some (some (.ref D)) := by
  unfold refOf at h
  split at h
  · cases h; rfl
  · cases h
def isvB (K : PySem.W.Frag) (rt : List (Str × Bool)) (cv : Value) : Bool := rt.all fun p => match refOf (PySem.W.nsIn K mainGlobals p.1) with
  | some D => decide (PySem.W.kitOne K (.ref D) cv = some p.2)
  | none => false
def excvB (K : PySem.W.Frag) (cs : List Str) : Bool := cs.all fun c => match refOf (PySem.W.nsIn K mainGlobals c) with
  | some D => decide (PySem.W.findIn K (.ref D) "__getattribute__" = some (some (.builtin "BaseException.__getattribute__"))) && (decide (PySem.W.findIn K (.ref D) "__getattr__" = some none) && (decide (PySem.W.subIn K (.ref D) (.type "BaseException") = some true) && (PySem.W.hasDictIn K D &&
      (decide (PySem.W.findIn K (.ref D) "__class__" = some (some (.builtin "object.__class__"))) && decide (PySem.W.mroIn K D (.type "object") = some true)))))
  | none => false
theorem lookup_memB {rt : List (Str × Bool)} {c : Str} {b : Bool} (h : rt.lookup c = some b) : (c, b) ∈ rt := by
  induction rt with
  | nil => cases h
  | cons p r ih =>
    obtain ⟨d, e⟩ := p
    rw [List.lookup_cons] at h
    cases q : c == d with
    | true => rw [q] at h; cases h; rw [eq_of_beq q]; exact List.mem_cons_self ..
    | false => rw [q] at h; exact List.mem_cons_of_mem _ (ih h)
theorem isV_mk {K : PySem.W.Frag} {mg : Str → Option Value} {h : Heap} {rt : List (Str × Bool)} {cv : Value} {cs : List Str} (X : K.In h) (G : h.Ns mainGlobals mg) (xz1 : PySem.W.specialIn K (.builtin "object.__class__") "__get__" = some (some (.builtin "getset_descriptor.__get__"))) (xz2 : PySem.W.takesIn K (.builtin "object.__class__") = some true)
    (h1 : isvB K rt cv = true) (h2 : excvB K cs = true) (h3 : rt.all (fun p => cs.contains p.1) = true) : IsV K mg rt cv := fun c b hl => by
  have hm := lookup_memB hl
  have a1 := List.all_eq_true.mp h1 _ hm
  have a3 := List.all_eq_true.mp h3 _ hm
  have a2 := List.all_eq_true.mp h2 c (by simpa using a3)
  dsimp only at a1 a2
  cases hq : refOf (PySem.W.nsIn K mainGlobals c) with
  | none => rw [hq] at a1; cases a1
  | some D =>
    rw [hq] at a1 a2
    have a1 := of_decide_eq_true a1
    simp only [Bool.and_eq_true, decide_eq_true_eq] at a2
    obtain ⟨b1, b2, b3, b4, b5, b6⟩ := a2
    exact ⟨D, PySem.W.mg_of X G (refOf_eq hq), ⟨b1, b2, b3, b4, b5, xz1, xz2, b6⟩, a1⟩
def rIsV (K : PySem.W.Frag) : List V → Hp → VK → Prop := fun xs H Q => ∃ (a D : Addr) (c : V) (cv : Value) (b : Bool), xs = [.ref a, c] ∧ XAt H a D ∧ ExcC K D ∧ (∀ u, RelV c u → u = cv) ∧ PySem.W.kitOne K (.ref D) cv = some b ∧ Q (.bl b) H
theorem xat_inst {X : Cx} {pins : List (Addr × Obj)} {σ : L2.St} {H : Hp} {s : Shared} {a D : Addr} (I : L2.Inv X pins σ H s) (h : XAt H a D) : ∃ oe od, PySem.W.InstAt s.heap a oe D od := by
  rcases h with ⟨dx, fs, h1, h2⟩ | h
  · obtain ⟨t1, ho⟩ := exo_at I.hok h1
    obtain ⟨mA, hns, rel⟩ := exd_at I.hok h2
    obtain ⟨od, hod, _⟩ := lookIn_ns hns
    exact ⟨_, some od, ho, rfl, rfl, hod⟩
  · obtain ⟨⟨oe, vs, ho, hz, hd, _⟩, _, _⟩ := I.hok a _ h
    obtain ⟨oc, odc, oda, osl⟩ := oe
    obtain ⟨z1, z2⟩ := hz
    dsimp only at z1 z2 hd
    subst z1 z2 hd
    exact ⟨_, none, ho, rfl, rfl, trivial⟩
theorem call_isV {X : Cx} : CallR X (.builtin "isinstance") (rIsV X.K) := by
  intro pins s σ H xs us Q I r h
  obtain ⟨a, D, c, cv, b, rfl, hx, C, hcv, e, q⟩ := h
  obtain ⟨u1, u2, rfl, r1, r2⟩ := vals2 r
  cases (show u1 = Value.ref a from r1)
  have ec := hcv _ r2
  subst ec
  obtain ⟨oe, od, J⟩ := xat_inst I hx
  exact PySem.W.kia_one (PySem.W.kitx_exc (any_some' C.hd) C.hg C.hk C.hs C.ha C.hn C.ht C.hm) I.kIn J e (fun z => nomatch z) fun tk => ⟨.bl b, H, I.tok tk, rfl, q⟩
def tXv (K : PySem.W.Frag) (f : Str) (te : TE) : TE := fun σ H Q => te σ H fun x H1 => ∃ (a D dx : Addr) (fs : List (Str × V)) (v : V), x = .ref a ∧ XfC K D ∧ PySem.W.findIn K (.ref D) f = some none ∧ H1 a = some (exo a D (some dx)) ∧ H1 dx = some (exd dx fs) ∧ fs.lookup f = some v ∧ Q v H1
theorem pe_xv {X : Cx} {e : Expr} {te : TE} {pos : Pos} {f : Str} (he : PE X e te) (hb : attributeBase e f X.env (eval e X.env) = eval e X.env) : PE X (.Attribute e f pos) (tXv X.K f te) := by
  refine ⟨fun pins s σ H Q I h => ?_⟩
  refine attr_of hb (thn (he.run pins s σ H _ I h) fun u s1 hh => ?_)
  obtain ⟨x, H1, I1, rx, a, D, dx, fs, v, ex, T, hno, ea, ed, l, q⟩ := hh
  subst ex
  obtain rfl : u = Value.ref a := rx
  obtain ⟨t1, ho⟩ := exo_at I1.hok ea
  obtain ⟨mA, hns, hr⟩ := exd_at I1.hok ed
  obtain ⟨od, hod, hl⟩ := lookIn_ns hns
  obtain ⟨u, hu, ru⟩ := RelO.some_of (v := v) (o := mA f) (by rw [← l]; exact hr f)
  have J : PySem.W.InstAt s1.heap a _ D (some od) := ⟨ho, rfl, rfl, hod⟩
  exact HandSPX.exc_get I1.kIn J T.ga T.gg T.exC (PySem.W.findObj_own T.hdC hno rfl (by rw [hl, hu])) (handed_of ru) ⟨v, H1, I1.tok _, ru, q⟩
section
variable {ι : Type} {Xf : ι → Cx} {P : Program} {w : World} {K : PySem.W.Frag} {mg : Str → Option Value} {base : Heap} {n : Nat} [F : Fam Xf P w K mg base n] [FG : FamG Xf]
variable {m m1 m2 : List Ty} {pos p p1 p2 xp : Pos} {a : Expr} {es : List Expr} {f : Ef} {fr : Lf} {tys : List Ty} {L : List (Option Nat)}
theorem mkE_end {G H : Hp} {σ : L2.St} {e : En} {A : List Addr} {D : Addr} {flds : List Str} {vs : List V} {ds : List PyData} (st : Stt K m G H σ e A) (q : DqA K G vs ds) (hl : ds.length = flds.length) (hn : flds.length ≤ 1000) {Q : V → Hp → Prop}
    (k : ∀ (G' H' : Hp) (z dx : Addr), Step A G H A G' H' → Stt K m G' H' σ e A → DqA K G' vs ds → G' z = some (exo z D (some dx)) → G' dx = some (exd dx (flds.zip vs).reverse) → Q (.ref z) H') :
    vs.length ≤ 1000 ∧ ∀ z, H z = none → spIn D flds (.ref z :: vs) (upd H z (exo z D none)) (fun v H' => v = .non ∧ Q (.ref z) H') E0 := by
  have hlv : vs.length = flds.length := by rw [q.1]; exact hl
  refine ⟨by rw [hlv]; exact hn, fun z hz => ⟨z, vs, rfl, hlv, upd_same, fun dx H' hdx hne h1 h2 h3 => ⟨rfl, ?_⟩⟩⟩
  rw [upd_ne hne] at hdx
  have eH : H' = upd (upd H dx (exd dx (flds.zip vs).reverse)) z (exo z D (some dx)) := by
    funext b
    by_cases hb : b = z
    · subst hb; rw [upd_same]; exact h1
    · rw [upd_ne hb]
      by_cases hd : b = dx
      · subst hd; rw [upd_same]; exact h2
      · rw [upd_ne hd, h3 b hb hd, upd_ne hb]
  rw [eH]
  obtain ⟨s2, st2, sg2⟩ := new_s (o := exd dx (flds.zip vs).reverse) st hdx
  obtain ⟨s3, st3, sg3⟩ := new_s (o := exo z D (some dx)) st2 (show upd H dx _ z = none by rw [upd_ne (fun y => hne y.symm)]; exact hz)
  exact k _ _ z dx (s2.seq0 s3) st3 ((q.mono sg2).mono sg3) upd_same (sg3 _ _ upd_same)
include F FG in
theorem pd_mkE {k : Nat} {x : Str} (flds : List Str) (T : ExcV P w K mg base k x flds) (ha : PAL Xf K m (a :: es) tys L fr m1) (ht : tys = List.replicate flds.length .s := by rfl) (hk : k + 1 ≤ n := by decide) (hn : flds.length ≤ 1000 := by decide) (hg : ∀ i, Gl (Xf i) x := by intro _; rfl)
    (hdb : (x == ("__debug__" : Str)) = false := by decide) (he : ∀ i, starEach (a :: es) (Xf i).env = (false, eval a (Xf i).env) :: starEach es (Xf i).env := by intro _; rfl) (hpl : ∀ i, (backTo pos (starEach es (Xf i).env)).any (·.1) = false := by intro _; rfl) :
    PD Xf K m (.Call (.Name x p) (a :: es) [] pos) (.g (XvΦ mg)) (e1 (gRz x) (eTup fr)) m1 := by
  obtain ⟨C, gC, mk⟩ := T.ex
  obtain ⟨ta, pa, da⟩ := ha.ex
  refine ⟨_, fun i => mk (Xf i) a es ta p pos (F.prog i) (F.w_ i) (F.kk i) (F.mg_ i) (F.base_ i) ((rmOf F FG i).mono hk) (hg i) (pa i) hdb (he i) (hpl i), fun {G H σ e A d e' Q} st hf kk => ?_⟩
  obtain ⟨⟨dt, e1⟩, hf1, hf⟩ := oBs hf
  obtain ⟨d2, hf2, hf⟩ := oBs hf
  cases hf
  obtain ⟨⟨ds, e2⟩, hf3, hf4⟩ := oBs hf1
  cases hf4
  cases hf2
  refine da st hf3 fun G1 H1 vs A1 B1 s1 st1 o1 nd1 _ => ?_
  have hl := (ownA_len o1).1
  subst ht
  rw [List.length_replicate] at hl
  rw [show List.replicate flds.length Ty.s = List.replicate ds.length .s by rw [hl]] at o1
  obtain ⟨rfl, q⟩ := of_ownA o1
  have s1' : Step A G H B1 G1 H1 := s1
  exact mkE_end st1 q hl.symm hn fun G' H' z dx s2 st2 q2 h1 h2 => kk G' H' (.ref z) [] B1 (s1'.seq0 s2) st2 (xv_new gC (.inl ⟨dx, _, h1, h2⟩)) st2.nd
include F in
theorem pd_mkZ {x : Str} (T : ExcVZ P w K mg x) (hg : ∀ i, Gl (Xf i) x := by intro _; rfl) (hdb : (x == ("__debug__" : Str)) = false := by decide) :
    PD Xf K m (.Call (.Name x p) [] [] pos) (.g (XvΦ mg)) (eC (.tuple [.str x])) m := by
  obtain ⟨C, gC, mk⟩ := T.ex
  refine ⟨_, fun i => mk (Xf i) p pos (F.prog i) (F.w_ i) (F.kk i) (F.mg_ i) (hg i) hdb, fun {G H σ e A d e' Q} st hf kk => ?_⟩
  cases hf
  intro a ha
  obtain ⟨s2, st2, sg2⟩ := new_s (o := ExO (.ref C) a) st ha
  exact kk _ _ (.ref a) [] A s2 st2 (xv_new gC (.inr upd_same)) st2.nd
include F FG in
theorem pd_fldV {k : Nat} {x f : Str} (flds : List Str) (T : ExcV P w K mg base k x flds) (hX : ∀ D, mg x = some (.ref D) → XfC K D ∧ PySem.W.findIn K (.ref D) f = some none) (ha : PAL Xf K m (a :: es) tys L fr m1) (ht : tys = List.replicate flds.length .s := by rfl) (hk : k + 1 ≤ n := by decide) (hn : flds.length ≤ 1000 := by decide) (hnd : flds.Nodup := by decide) (hg : ∀ i, Gl (Xf i) x := by intro _; rfl)
    (hdb : (x == ("__debug__" : Str)) = false := by decide) (he : ∀ i, starEach (a :: es) (Xf i).env = (false, eval a (Xf i).env) :: starEach es (Xf i).env := by intro _; rfl) (hpl : ∀ i, (backTo pos (starEach es (Xf i).env)).any (·.1) = false := by intro _; rfl)
    (hb : ∀ i, attributeBase (.Call (.Name x p) (a :: es) [] pos) f (Xf i).env (eval (.Call (.Name x p) (a :: es) [] pos) (Xf i).env) = eval (.Call (.Name x p) (a :: es) [] pos) (Xf i).env := by intro _; rfl) :
    PD Xf K m (.Attribute (.Call (.Name x p) (a :: es) [] pos) f p2) .s (e1 (gFldV flds f) (eTup fr)) m1 := by
  obtain ⟨C, gC, mk⟩ := T.ex
  obtain ⟨XC, nf⟩ := hX C gC
  obtain ⟨ta, pa, da⟩ := ha.ex
  refine ⟨_, fun i => (by have := pe_xv (f := f) (pos := p2) (mk (Xf i) a es ta p pos (F.prog i) (F.w_ i) (F.kk i) (F.mg_ i) (F.base_ i) ((rmOf F FG i).mono hk) (hg i) (pa i) hdb (he i) (hpl i)) (hb i); rw [F.kk i] at this; exact this), fun {G H σ e A d e' Q} st hf kk => ?_⟩
  obtain ⟨⟨dt, e1⟩, hf1, hf⟩ := oBs hf
  obtain ⟨d2, hf2, hf⟩ := oBs hf
  cases hf
  obtain ⟨⟨ds, e2⟩, hf3, hf4⟩ := oBs hf1
  cases hf4
  refine da st hf3 fun G1 H1 vs A1 B1 s1 st1 o1 nd1 _ => ?_
  have hl := (ownA_len o1).1
  subst ht
  rw [List.length_replicate] at hl
  rw [show List.replicate flds.length Ty.s = List.replicate ds.length .s by rw [hl]] at o1
  obtain ⟨rfl, q⟩ := of_ownA o1
  have s1' : Step A G H B1 G1 H1 := s1
  refine mkE_end (Q := fun x H1 => ∃ (a D dx : Addr) (fs : List (Str × V)) (v : V), x = .ref a ∧ XfC K D ∧ PySem.W.findIn K (.ref D) f = some none ∧ H1 a = some (exo a D (some dx)) ∧ H1 dx = some (exd dx fs) ∧ fs.lookup f = some v ∧ Q v H1) (D := C) st1 q hl.symm hn fun G' H' z dx s2 st2 q2 h1 h2 => ?_
  have hf2 : (flds.zip ds).lookup f = some d := hf2
  have key : ∀ (flds : List Str) (vs : List V) (ds : List PyData), DqA K G' vs ds → (flds.zip ds).lookup f = some d → ∃ v, (flds.zip vs).lookup f = some v ∧ Dq K G' v d := by
    intro flds
    induction flds with
    | nil => intro vs ds _ h; cases ds <;> cases h
    | cons g flds ih =>
      intro vs ds hq h
      cases ds with
      | nil => cases h
      | cons y ds =>
        cases vs with
        | nil => have := hq.1; simp at this
        | cons v vs =>
          rw [List.zip_cons_cons, List.lookup_cons] at h
          rw [List.zip_cons_cons, List.lookup_cons]
          cases hfg : f == g with
          | true => rw [hfg] at h; cases h; exact ⟨v, rfl, hq.head⟩
          | false => rw [hfg] at h; exact ih vs ds hq.tail h
  obtain ⟨v, hv, qv⟩ := key flds vs ds q2 hf2
  have rev : (flds.zip vs).reverse.lookup f = some v := lookup_rev (by rw [zip_fst (by rw [q2.1, hl])]; exact hnd) hv
  exact ⟨z, C, dx, _, v, rfl, XC, nf, st2.sub _ _ h1, st2.sub _ _ h2, rev, kk G' H' v [] B1 (s1'.seq0 s2) st2 (.s qv) st2.nd⟩
theorem pd_varX (j : Nat) {xn : Str} (hm : m[j]? = some (.g (XvΦ mg)) := by rfl) (hN : ∀ i, (Xf i).N[j]? = some xn := by intro _; rfl) (hv : ∀ i, Vis (Xf i).env.scope xn := by first | (intro _; exact Or.inl rfl) | (intro _; exact Or.inr (Or.inl rfl)) | (intro _; exact Or.inr (Or.inr rfl))) (hd : (xn == ("__debug__" : Str)) = false := by decide) (hcd : (xn == ("__classdict__" : Str)) = false := by decide) :
    PD Xf K m (.Name xn xp) (.g (XvΦ mg)) (eVar j) m := by
  refine ⟨tVar j, fun i => pe_var (pos := xp) (hN i) (hv i) hd hcd, fun {G H σ e A d e' Q} st hf k => ?_⟩
  cases hf
  obtain ⟨d', v, Aj, A0, g1, g2, g3, _, _⟩ := ownA_take st.own hm
  have ed : e.getD j .none = d' := by rw [List.getD_eq_getElem?_getD, g1]; rfl
  rw [ed] at k
  cases g3 with
  | @g _ _ v _ ok h =>
    obtain ⟨rfl, a, D, c, ds, rfl, rfl, h3, h4⟩ := h
    exact ⟨.ref a, g2, k G H _ [] A Step.refl st (xv_new h3 h4) st.nd⟩
include F in
theorem pd_itmX (j : Nat) {t0 : Ty} {b : Expr} {x : Str} {ef : Ef} (hi : PD Xf K m b .s ef m1) (h0 : m[j]? = some t0 := by rfl) (hl0 : lstTy t0 = true := by rfl) (hm : m1[j]? = some (.l (.g (XvΦ mg))) := by rfl) (hN : ∀ i, (Xf i).N[j]? = some x := by intro _; rfl)
    (hv : ∀ i, Vis (Xf i).env.scope x := by first | (intro _; exact Or.inl rfl) | (intro _; exact Or.inr (Or.inl rfl)) | (intro _; exact Or.inr (Or.inr rfl))) (hd : (x == ("__debug__" : Str)) = false := by decide) (hcd : (x == ("__classdict__" : Str)) = false := by decide) (hs : PlainIx b := by exact fun _ _ => rfl) :
    PD Xf K m (.Subscript (.Name x xp) b pos) (.g (XvΦ mg)) (eItmG j ef) m1 := by
  obtain ⟨tb, pb, hi⟩ := hi.ex
  refine ⟨_, fun i => by have := pe_ix (ix_list (X := Xf i)) (pe_var (pos := xp) (hN i) (hv i) hd hcd) (pb i) hs (pos := pos); rw [F.kk i] at this; exact this, ?_⟩
  intro G H σ e A d e' Q st hf k
  obtain ⟨⟨di, e1⟩, hf1, hf⟩ := oBs hf
  obtain ⟨x, hx, hf⟩ := Option.map_eq_some_iff.mp hf
  cases hf
  obtain ⟨d0, v0, B0, C0, g1, g2, g3, _, _⟩ := ownA_take st.own h0
  have hv0 : ∃ w, v0 = some w := by cases g3 with | u => cases hl0 | s => cases hl0 | q => cases hl0 | e => cases hl0 | k => cases hl0 | a => cases hl0 | d => exact ⟨_, rfl⟩ | t => exact ⟨_, rfl⟩ | o => exact ⟨_, rfl⟩ | f => cases hl0 | x => cases hl0 | g => cases hl0 | l => exact ⟨_, rfl⟩ | r => exact ⟨_, rfl⟩
  obtain ⟨w, rfl⟩ := hv0
  refine ⟨w, g2, hi st hf1 fun G1 H1 y A1 B1 s1 st1 o1 nd1 => ?_⟩
  obtain ⟨dj, vj, Aj, A0, h1, h2, h3, h4, hp⟩ := ownA_take st1.own hm
  rw [g2] at h2
  obtain rfl := Option.some.inj h2
  cases o1 with
  | s q1 =>
    cases h3 with
    | @l _ a vs ds Ai ga ha hz oi =>
      have ed : e1.getD j .none = .list ds := by rw [List.getD_eq_getElem?_getD, h1]; rfl
      rw [ed] at hx
      cases di with
      | int i =>
        obtain rfl := dq_int q1
        obtain ⟨jj, hj, hx⟩ := oBs (show (ixN ds.length i).bind _ = _ from hx)
        have len := ownA_len oi
        have len1 : ds.length = vs.length := by
          have := len.1
          have h2 := len.2
          simp at h2
          omega
        obtain ⟨d', v', Ak, A1, k1, k2, k3, _, _⟩ := ownA_take oi (j := jj) (t := .g (XvΦ mg)) (by rw [List.getElem?_replicate, if_pos (List.getElem?_eq_some_iff.mp hx).1])
        rw [hx] at k1
        cases k1
        cases k3 with
        | @g _ _ v _ ok h =>
          obtain ⟨rfl, a2, D, c, ds2, rfl, rfl, h5, h6⟩ := h
          have hv : vs[jj]? = some (.ref a2) := by
            rw [List.getElem?_map] at k2
            cases z : vs[jj]? with
            | none => rw [z] at k2; cases k2
            | some y => rw [z] at k2; cases k2; rfl
          exact ⟨a, vs, i, .ref a2, rfl, rfl, .inl (.inl ha), by unfold atI; rw [← len1, hj]; exact hv, k G1 H1 _ [] B1 s1 st1 (xv_new h5 h6) st1.nd⟩
      | _ => cases hx
include F in
theorem pd_isV {rt : List (Str × Bool)} {cv : Value} {v : V} {x : Str} {ef : Ef} (ha : PD Xf K m a (.g (XvΦ mg)) ef m1) (hi : IsV K mg rt cv) (hI : mg "isinstance" = none) (hT : ∀ i, PE (Xf i) (.Name x p2) (tC v)) (hv : ∀ u, RelV v u → u = cv)
    (hg : ∀ i, Gl (Xf i) "isinstance" := by intro _; rfl) (he : ∀ i, starEach [a, .Name x p2] (Xf i).env = (false, eval a (Xf i).env) :: starEach [.Name x p2] (Xf i).env := by intro _; rfl) (he2 : ∀ i, starEach [.Name x p2] (Xf i).env = (false, eval (.Name x p2) (Xf i).env) :: starEach [] (Xf i).env := by intro _; rfl) (hpl : ∀ i, (backTo pos (starEach [.Name x p2] (Xf i).env)).any (·.1) = false := by intro _; rfl) :
    PD Xf K m (.Call (.Name "isinstance" p) [a, .Name x p2] [] pos) .s (e1 (gIsE rt) ef) m1 := by
  obtain ⟨ta, pa, da⟩ := ha.ex
  refine ⟨_, fun i => (by
    have := pe_callB (X := Xf i) (pos := pos) (p := p) call_isV (hg i) (by rw [F.mg_ i]; exact hI) bt_isinstance (pa_cons (pa i) (pa_cons (hT i) pa_nil (he2 i)) (he i)) (by decide) (by decide) (he i) (hpl i)
    rw [F.kk i] at this
    exact this), fun {G H σ e A dd e' Q} st hf k => ?_⟩
  obtain ⟨⟨d1, e1⟩, hf1, hf⟩ := oBs hf
  obtain ⟨d2, hf2, hf⟩ := oBs hf
  cases hf
  refine da st hf1 fun G1 H1 v1 A1 B1 s1 st1 o1 nd1 => ?_
  cases o1 with
  | @g _ _ v1 _ ok h =>
    obtain ⟨rfl, a2, D, c, ds2, rfl, rfl, h5, h6⟩ := h
    obtain ⟨b, hb, hd⟩ := oBs (show (rt.lookup c).bind _ = _ from hf2)
    cases hd
    obtain ⟨D2, hD, EC, hk⟩ := hi c b hb
    rw [h5] at hD
    cases hD
    exact ⟨a2, D, v, cv, b, rfl, h6.mono st1.sub, EC, hv, hk, ans_s st1 (.bl b) fun G3 H3 v3 A3 B3 s3 st3 o3 nd3 => k G3 H3 v3 A3 B3 (s1.seq0 s3) st3 o3 nd3⟩
end
end DL
namespace DL
open PySem L2 PySem.Spec
@[simp] theorem rUnal {i j0 j1 : Nat} {e : En} : sUnal i j0 j1 e = (gHd2 (e.getD i .none)).bind fun q => some (.nx, (e.set j0 q.1).set j1 q.2) := rfl
@[simp] theorem rAl {j : Nat} {r : Lf} {e : En} : lAl j r e = (r e).bind fun p => some (p.2.getD j .none :: p.1, p.2) := rfl
end DL
namespace DL
open PySem L2 PySem.Spec
@[simp] theorem rDVals {j : Nat} {e : En} : eDVals j e = (gDVals (e.getD j .none)).bind fun d => some (d, e) := rfl
@[simp] theorem reThaw {f : Ef} {e : En} : eThaw f e = (f e).bind fun p => (grd (flat1 p.1)).bind fun _ => some p := rfl
@[simp] theorem rbTrue {e : En} : bTrue e = some (true, e) := rfl
section
variable {tb : CT} {j : Nat} {f : Ef} {fb fs : Sf} {e : En} {v : PyData}
@[simp] theorem rsAsgE : sAsgE tb j f e = (f e).bind fun p => (gIsOk tb p.1).bind fun w => (asB w).bind fun b => if b = true then (gUn p.1).bind fun d => some (.nx, p.2.set j d) else some (.rt p.1, p.2) := rfl
@[simp] theorem rsDropE : sDropE tb f e = (f e).bind fun p => (gIsOk tb p.1).bind fun w => (asB w).bind fun b => if b = true then some (.nx, p.2) else some (.rt p.1, p.2) := rfl
@[simp] theorem rsRetE : sRetE tb f e = (f e).bind fun p => (gIsOk tb p.1).bind fun _ => some (.rt p.1, p.2) := rfl
@[simp] theorem rsTryB : sTryB tb j fb fs e = (fb e).bind fun p => tryR tb j fs p := rfl
@[simp] theorem rsTryC : sTryC tb fb fs e = (fb e).bind fun p => tryR0 tb fs p := rfl
@[simp] theorem rTry1 : tryR tb j fs (.rt v, e) = (gIsOk tb v).bind fun w => (asB w).bind fun b => if b = true then (gUn v).bind fun d => some (.rt d, e) else fs (e.set j v) := rfl
@[simp] theorem rTry2 : tryR tb j fs (.nx, e) = some (.nx, e) := rfl
@[simp] theorem rTry3 : tryR tb j fs (.bk, e) = some (.bk, e) := rfl
@[simp] theorem rTry4 : tryR tb j fs (.ct, e) = some (.ct, e) := rfl
@[simp] theorem rTry5 : tryR0 tb fs (.rt v, e) = (gIsOk tb v).bind fun w => (asB w).bind fun b => if b = true then (gUn v).bind fun d => some (.rt d, e) else fs e := rfl
@[simp] theorem rTry6 : tryR0 tb fs (.nx, e) = some (.nx, e) := rfl
@[simp] theorem rTry7 : tryR0 tb fs (.bk, e) = some (.bk, e) := rfl
@[simp] theorem rTry8 : tryR0 tb fs (.ct, e) = some (.ct, e) := rfl
end
end DL
namespace DL
open PySem L2 PySem.Spec
section
variable {g gi gv : Gq} {pt : Pf} {e : En}
@[simp] theorem rsAugS : sAugS g pt gi gv e = (g e).bind fun d => (gi e).bind fun i => (gv e).bind fun v => (gAugS d i v).bind fun l => some (.nx, pt e l) := rfl
end
@[simp] theorem rExtV {j l : Nat} {e : En} : eExtV j l e = (gExt (e.getD j .none) (e.getD l .none)).bind fun d => some (.none, e.set j d) := rfl
@[simp] theorem rUpdT {j : Nat} {f : Ef} {e : En} : eUpdT j f e = (f e).bind fun p => (gUpdT (p.2.getD j .none) p.1).bind fun d => some (.none, p.2.set j d) := rfl
end DL
namespace DL
open PySem L2 PySem.Spec
section
variable {j : Nat} {f g : Ef} {e : En} {ng : Bool}
@[simp] theorem rTGet : eTGet j f e = (f e).bind fun p => (gTGet (p.2.getD j .none) p.1).bind fun d => some (d, p.2) := rfl
@[simp] theorem rTOne : eTOne f g e = (f e).bind fun p => (g p.2).bind fun q => (gTOne p.1 q.1).bind fun d => some (d, q.2) := rfl
@[simp] theorem rTInE : eTInE ng f g e = (f e).bind fun p => (g p.2).bind fun q => (gTIn ng q.1 p.1).bind fun d => some (d, q.2) := rfl
@[simp] theorem rsTPutD : sTPutD j f g e = (g e).bind fun p => (f p.2).bind fun q => (gTPut (q.2.getD j .none) q.1 p.1).bind fun d => some (.nx, q.2.set j d) := rfl
end
end DL
namespace DL
open PySem L2 PySem.Spec
def gNewF : PyData → PyData → Option PyData
  | .list ds, x => some (.list (ds ++ [x]))
  | _, _ => none
def gInit : PyData × List PyData → Option PyData
  | (.none, f0 :: _) => some f0
  | _ => none
section
variable {j : Nat} {f g : Ef} {e : En} {fr : Lf} {Fn : DFn}
@[simp] theorem rsNewF : sNewF j f e = (f e).bind fun p => (gNewF (p.2.getD j .none) p.1).bind fun d => some (.nx, p.2.set j d) := by
  show (f e).bind _ = _
  congr 1
  funext p
  cases h : p.2.getD j .none <;> simp only [gNewF] <;> rfl
@[simp] theorem rMake : eMake Fn fr e = (fr e).bind fun p => (Fn (.list [] :: p.1)).bind fun q => (gInit q).bind fun d => some (d, p.2) := by
  show (fr e).bind _ = _
  congr 1
  funext p
  congr 1
  funext q
  obtain ⟨d, fs⟩ := q
  cases d <;> cases fs <;> rfl
end
end DL
namespace DL
open PySem L2 PySem.Spec
@[simp] theorem stb_o {C : Addr} {ns : List Str} {ts : List Ty} : stb (.o C ns ts) = false := rfl
@[simp] theorem stb_f {C : Addr} {ns : List Str} : stb (.f C ns) = true := rfl
@[simp] theorem gInit_mk {d : PyData} {ds : List PyData} : gInit (.none, d :: ds) = some d := rfl
section
variable {j k : Nat} {f : Ef} {e : En} {Fn : DFn} {rty : Ty} {ds : List PyData}
@[simp] theorem rBor : borF rty Fn ds = (Fn ds).bind fun p => (grd (flatR rty p.1)).bind fun _ => some (p.1, ds) := rfl
@[simp] theorem rAppF : eAppF j k f e = (f e).bind fun p => (gAppF k (e.getD j .none) p.1).bind fun d => some (.none, p.2.set j d) := rfl
end
end DL
namespace DL
open PySem L2 PySem.Spec
theorem le_line {n : Nat} (h : n ≤ 1000000) : n ≤ sizeLine := Nat.le_trans h (by decide)
theorem lt_line {n : Nat} (h : n ≤ 1000000) : n < sizeLine := Nat.lt_of_le_of_lt h (by decide)
section
variable {i j : Int} {b c : Bool} {x y z d : PyData} {xs ys zs : List PyData} {s t : Str} {α β γ σ : Type}
@[simp] theorem asB_bool : asB (.bool b) = some b := rfl
@[simp] theorem ifB_bool {p q : Option α} : ifB (.bool b) p q = if b = true then p else q := by cases b <;> rfl
@[simp] theorem un2_ok : un2 (.tuple [x, y]) = some (x, y) := rfl
@[simp] theorem un3_ok : un3 (.tuple [x, y, z]) = some (x, y, z) := rfl
@[simp] theorem un4_ok : un4 (.tuple [x, y, z, d]) = some (x, y, z, d) := rfl
@[simp] theorem grd_true : grd true = some () := rfl
@[simp] theorem xAdd : gAdd (.int i) (.int j) = some (.int (i + j)) := rfl
@[simp] theorem xAddB : gAdd (.bool b) (.int j) = some (.int (bI b + j)) := rfl
@[simp] theorem xSub : DL.gSub (.int i) (.int j) = some (.int (i - j)) := rfl
@[simp] theorem xSubB : DL.gSub (.bool b) (.int j) = some (.int (bI b - j)) := rfl
@[simp] theorem xNeg : gNeg (.int i) = some (.int (-i)) := rfl
@[simp] theorem xAddI : gAddI (.int i) (.int j) = some (.int (i + j)) := rfl
theorem xMul (h : i.natAbs < 2 ^ 64 ∨ j.natAbs < 2 ^ 64) : gMul (.int i) (.int j) = some (.int (i * j)) := by
  show (if mulOk i j = true then _ else _) = _
  rw [if_pos]
  unfold mulOk
  rcases h with h | h
  · rw [decide_eq_true h]; rfl
  · rw [decide_eq_true h, Bool.or_true]
theorem xFdivW {k : Nat} (h : 0 < j) (h2 : j.natAbs < 2 ^ k) (hk : k ≤ 9000) : gFdiv (.int i) (.int j) = some (.int (i / j)) :=
  if_pos ⟨h, Nat.lt_of_lt_of_le ((Nat.log2_lt (show j.natAbs ≠ 0 by omega)).mpr h2) hk⟩
theorem xFdiv (h : 0 < j) (h2 : j < 1073741824) : gFdiv (.int i) (.int j) = some (.int (i / j)) := xFdivW (k := 30) h (by omega) (by decide)
theorem xMod (h : 0 < j) : gMod (.int i) (.int j) = some (.int (i % j)) := if_pos h
@[simp] theorem xLt : gLt (.int i) (.int j) = some (.bool (decide (i < j))) := rfl
@[simp] theorem xGt : gGt (.int i) (.int j) = some (.bool (decide (j < i))) := rfl
@[simp] theorem xLe : gLe (.int i) (.int j) = some (.bool (decide (i ≤ j))) := rfl
@[simp] theorem xGe : gGe (.int i) (.int j) = some (.bool (decide (j ≤ i))) := rfl
theorem eqv_int : PyData.eqv (.int i) (.int j) = decide (i = j) := by
  unfold PyData.eqv
  by_cases h : i = j <;> simp [h]
theorem eqv_str : PyData.eqv (.str s) (.str t) = (s == t) := by unfold PyData.eqv; rfl
theorem eqv_bool : PyData.eqv (.bool b) (.bool c) = (b == c) := by unfold PyData.eqv; cases b <;> cases c <;> rfl
theorem eqv_tuple : PyData.eqv (.tuple xs) (.tuple ys) = PyData.eqvAll xs ys := by rw [PyData.eqv]
theorem eqv_list : PyData.eqv (.list xs) (.list ys) = PyData.eqvAll xs ys := by rw [PyData.eqv]
theorem eqv_nil : PyData.eqvAll xs [] = xs.isEmpty := by cases xs <;> simp [PyData.eqvAll]
theorem eqv_cons : PyData.eqvAll (x :: xs) (y :: ys) = (PyData.eqv x y && PyData.eqvAll xs ys) := by rw [PyData.eqvAll]
theorem gEq_ok (h : x.depth ≤ 60 ∨ y.depth ≤ 60) (hx : x.plain = true) (hy : y.plain = true) : gEq x y = some (.bool (PyData.eqv x y)) := by
  unfold gEq dep pln
  rw [hx, hy, if_pos]
  rw [decide_eq_true]
  · rfl
  · rcases h with h | h
    · exact Nat.le_trans (Nat.min_le_left _ _) h
    · exact Nat.le_trans (Nat.min_le_right _ _) h
theorem gNe_ok (h : x.depth ≤ 60 ∨ y.depth ≤ 60) (hx : x.plain = true) (hy : y.plain = true) : gNe x y = some (.bool (!PyData.eqv x y)) := by
  unfold gNe dep pln
  rw [hx, hy, if_pos]
  rw [decide_eq_true]
  · rfl
  · rcases h with h | h
    · exact Nat.le_trans (Nat.min_le_left _ _) h
    · exact Nat.le_trans (Nat.min_le_right _ _) h
@[simp] theorem xEq : gEq (.int i) (.int j) = some (.bool (decide (i = j))) := by rw [gEq_ok (x := .int i) (y := .int j) (.inl (Nat.zero_le 60)) rfl rfl, eqv_int]
@[simp] theorem xNe : gNe (.int i) (.int j) = some (.bool (!decide (i = j))) := by rw [gNe_ok (x := .int i) (y := .int j) (.inl (Nat.zero_le 60)) rfl rfl, eqv_int]
@[simp] theorem xEqS : gEq (.str s) (.str t) = some (.bool (s == t)) := by rw [gEq_ok (x := .str s) (y := .str t) (.inl (Nat.zero_le 60)) rfl rfl, eqv_str]
@[simp] theorem xNeS : gNe (.str s) (.str t) = some (.bool (!(s == t))) := by rw [gNe_ok (x := .str s) (y := .str t) (.inl (Nat.zero_le 60)) rfl rfl, eqv_str]
@[simp] theorem xEqB : gEq (.bool b) (.bool c) = some (.bool (b == c)) := by rw [gEq_ok (x := .bool b) (y := .bool c) (.inl (Nat.zero_le 60)) rfl rfl, eqv_bool]
@[simp] theorem xNeB : gNe (.bool b) (.bool c) = some (.bool (!(b == c))) := by rw [gNe_ok (x := .bool b) (y := .bool c) (.inl (Nat.zero_le 60)) rfl rfl, eqv_bool]
theorem plain_nil : PyData.plainAll [] = true := by unfold PyData.plainAll; rfl
theorem plain_cons : PyData.plainAll (x :: xs) = (x.plain && PyData.plainAll xs) := by rw [PyData.plainAll]
theorem plain_list : (PyData.list xs).plain = PyData.plainAll xs := by rw [PyData.plain]
theorem plain_all (h : ∀ x ∈ xs, x.plain = true) : PyData.plainAll xs = true := by
  induction xs with
  | nil => exact plain_nil
  | cons x xs ih => rw [plain_cons, h x (List.mem_cons_self ..), ih fun y hy => h y (List.mem_cons_of_mem _ hy)]; rfl
theorem plain_map {f : α → PyData} (h : ∀ a, (f a).plain = true) {l : List α} : PyData.plainAll (l.map f) = true := plain_all fun x hx => by
  obtain ⟨a, _, rfl⟩ := List.mem_map.mp hx
  exact h a
theorem depth_all {n : Nat} (h : ∀ x ∈ xs, x.depth ≤ n) : PyData.depthAll xs ≤ n := by
  induction xs with
  | nil => unfold PyData.depthAll; omega
  | cons x xs ih =>
    unfold PyData.depthAll
    exact Nat.max_le.mpr ⟨h x (List.mem_cons_self ..), ih fun y hy => h y (List.mem_cons_of_mem _ hy)⟩
theorem depth_map {n : Nat} {f : α → PyData} (h : ∀ a, (f a).depth ≤ n) {l : List α} : PyData.depthAll (l.map f) ≤ n := depth_all fun x hx => by
  obtain ⟨a, _, rfl⟩ := List.mem_map.mp hx
  exact h a
theorem depth_list : (PyData.list xs).depth = PyData.depthAll xs + 1 := by rw [PyData.depth]
@[simp] theorem depth_int : (PyData.int i).depth = 0 := rfl
@[simp] theorem plain_int : (PyData.int i).plain = true := rfl
@[simp] theorem xEqNilL : gEq (.list xs) (.list []) = some (.bool xs.isEmpty) := by
  have h : (dep (.list xs) (.list []) && pln (.list xs) (.list [])) = true := by
    have : dep (.list xs) (.list []) = true := decide_eq_true (Nat.le_trans (Nat.min_le_right _ _) (by decide))
    rw [this]
    unfold pln
    exact Bool.or_true _
  unfold gEq
  rw [if_pos h, eqv_list, eqv_nil]
@[simp] theorem xNeNilL : gNe (.list xs) (.list []) = some (.bool (!xs.isEmpty)) := by
  have h : (dep (.list xs) (.list []) && pln (.list xs) (.list [])) = true := by
    have : dep (.list xs) (.list []) = true := decide_eq_true (Nat.le_trans (Nat.min_le_right _ _) (by decide))
    rw [this]
    unfold pln
    exact Bool.or_true _
  unfold gNe
  rw [if_pos h, eqv_list, eqv_nil]
@[simp] theorem xEqNilT : gEq (.tuple xs) (.tuple []) = some (.bool xs.isEmpty) := by
  have h : (dep (.tuple xs) (.tuple []) && pln (.tuple xs) (.tuple [])) = true := by
    have : dep (.tuple xs) (.tuple []) = true := decide_eq_true (Nat.le_trans (Nat.min_le_right _ _) (by decide))
    rw [this]
    unfold pln
    exact Bool.or_true _
  unfold gEq
  rw [if_pos h, eqv_tuple, eqv_nil]
@[simp] theorem xNeNilT : gNe (.tuple xs) (.tuple []) = some (.bool (!xs.isEmpty)) := by
  have h : (dep (.tuple xs) (.tuple []) && pln (.tuple xs) (.tuple [])) = true := by
    have : dep (.tuple xs) (.tuple []) = true := decide_eq_true (Nat.le_trans (Nat.min_le_right _ _) (by decide))
    rw [this]
    unfold pln
    exact Bool.or_true _
  unfold gNe
  rw [if_pos h, eqv_tuple, eqv_nil]
@[simp] theorem xLenL : gLen (.list xs) = some (.int xs.length) := rfl
@[simp] theorem xLenT : gLen (.tuple xs) = some (.int xs.length) := rfl
@[simp] theorem xLenLL : gLenL (.list xs) = some (.int xs.length) := rfl
@[simp] theorem xTupL : gTuple (.list xs) = some (.tuple xs) := rfl
@[simp] theorem xTupT : gTuple (.tuple xs) = some (.tuple xs) := rfl
@[simp] theorem xListL : gList (.list xs) = some (.list xs) := rfl
@[simp] theorem xListT : gList (.tuple xs) = some (.list xs) := rfl
@[simp] theorem xAbs : gAbs (.int i) = some (.int (if i < 0 then -i else i)) := rfl
@[simp] theorem xIxL : gIx (.list xs) (.int i) = atI xs i := rfl
@[simp] theorem xIxT : gIx (.tuple xs) (.int i) = atI xs i := rfl
@[simp] theorem xItem : itemD (.list xs) (.int i) = atI xs i := rfl
@[simp] theorem xSeqL : seqD (.list xs) = some xs := rfl
@[simp] theorem xSeqT : seqD (.tuple xs) = some xs := rfl
@[simp] theorem xEnL : gEn (.list xs) = some (enumD 0 xs) := rfl
@[simp] theorem xEnT : gEn (.tuple xs) = some (enumD 0 xs) := rfl
@[simp] theorem xZipL : zipS (.list xs) (.list ys) = some (zipD xs ys) := rfl
@[simp] theorem xZipT : zipS (.tuple xs) (.tuple ys) = some (zipD xs ys) := rfl
@[simp] theorem xIsa {p : PyData → Bool} : gIsa p d = some (.bool (p d)) := rfl
@[simp] theorem xTruB : gTruth (.bool b) = some b := rfl
@[simp] theorem xTruL : gTruth (.list xs) = some (!xs.isEmpty) := rfl
@[simp] theorem xTruT : gTruth (.tuple xs) = some (!xs.isEmpty) := rfl
def isN : PyData → Bool
  | .none => true
  | _ => false
@[simp] theorem isN0 : isN .none = true := rfl
@[simp] theorem isN1 : isN (.int i) = false := rfl
@[simp] theorem isN2 : isN (.bool b) = false := rfl
@[simp] theorem isN3 : isN (.str s) = false := rfl
@[simp] theorem isN4 : isN (.list xs) = false := rfl
@[simp] theorem isN5 : isN (.tuple xs) = false := rfl
@[simp] theorem xIsN : gIs d .none = some (.bool (isN d)) := by cases d <;> rfl
@[simp] theorem xIsNotN : gIsNot d .none = some (.bool (!isN d)) := by cases d <;> rfl
@[simp] theorem xIsB : gIs (.bool b) (.bool c) = some (.bool (b == c)) := rfl
@[simp] theorem xIsNotB : gIsNot (.bool b) (.bool c) = some (.bool (!(b == c))) := rfl
@[simp] theorem xIsNB : gIs .none (.bool c) = some (.bool false) := rfl
@[simp] theorem xBackT : gBack (.tuple xs) = some (.tuple xs.reverse) := rfl
@[simp] theorem xBackL : gBack (.list xs) = some (.list xs.reverse) := rfl
@[simp] theorem xPrt : prt (.int i) = some (some i) := rfl
theorem xAddL (h : xs.length + ys.length ≤ 1000000) : gAdd (.list xs) (.list ys) = some (.list (xs ++ ys)) := if_pos (le_line h)
theorem xAddLL (h : xs.length + ys.length ≤ 1000000) : gAddL (.list xs) (.list ys) = some (.list (xs ++ ys)) := if_pos (le_line h)
theorem xApp (h : xs.length ≤ 1000000) : gApp (.list xs) x = some (.list (xs ++ [x])) := if_pos (lt_line h)
theorem xPow (h : 0 ≤ j) (h2 : j ≤ 1000000) (h3 : i.natAbs < 2 ^ 64) : gPow (.int i) (.int j) = some (.int (i ^ j.toNat)) := if_pos ⟨h, h2, h3⟩
@[simp] theorem scInt : scD (.int i) = true := rfl
@[simp] theorem scBool : scD (.bool b) = true := rfl
@[simp] theorem at0 {a : α} {l : List α} : atI (a :: l) 0 = some a := by
  have : atI (a :: l) ((0 : Nat) : Int) = some a := atI_nat rfl
  exact this
@[simp] theorem at1 {a b : α} {l : List α} : atI (a :: b :: l) 1 = some b := by
  have : atI (a :: b :: l) ((1 : Nat) : Int) = some b := atI_nat rfl
  exact this
@[simp] theorem at2 {a b c : α} {l : List α} : atI (a :: b :: c :: l) 2 = some c := by
  have : atI (a :: b :: c :: l) ((2 : Nat) : Int) = some c := atI_nat rfl
  exact this
theorem ixN_nat {n j : Nat} (h : j < n) : ixN n ((j : Nat) : Int) = some j := by
  unfold ixN
  simp [h]
@[simp] theorem ixn0 {n : Nat} : ixN (n + 1) 0 = some 0 := ixN_nat (j := 0) (by omega)
@[simp] theorem ixn1 {n : Nat} : ixN (n + 1 + 1) 1 = some 1 := ixN_nat (j := 1) (by omega)
@[simp] theorem ixn2 {n : Nat} : ixN (n + 1 + 1 + 1) 2 = some 2 := ixN_nat (j := 2) (by omega)
theorem at_nat {l : List α} {n : Nat} (h : n < l.length) : atI l ((n : Nat) : Int) = some l[n] := atI_nat (List.getElem?_eq_getElem h)
theorem at_map {f : α → β} {l : List α} {i : Int} (h0 : 0 ≤ i) (h1 : i < l.length) : ∃ a, l[i.toNat]? = some a ∧ a ∈ l ∧ atI (l.map f) i = some (f a) := by
  have h2 : i.toNat < l.length := by omega
  refine ⟨l[i.toNat], List.getElem?_eq_getElem h2, List.getElem_mem h2, ?_⟩
  have : atI (l.map f) ((i.toNat : Nat) : Int) = some (f l[i.toNat]) := atI_nat (by rw [List.getElem?_map, List.getElem?_eq_getElem h2]; rfl)
  rwa [show ((i.toNat : Nat) : Int) = i by omega] at this
def natD (i : Nat) : PyData := .int (i : Nat)
theorem rng1_ok {n : Int} (h : 0 ≤ n) (h2 : n ≤ 1000000) : rng1 (.int n) = some ((List.range n.toNat).map natD) := by
  show (if n.toNat ≤ sizeLine ∧ -(2 ^ 62) ≤ n ∧ n < 2 ^ 62 then some (rngD 0 n.toNat) else none) = _
  rw [if_pos ⟨le_line (by omega), by omega, by omega⟩]
  unfold rngD natD
  simp
theorem mapS_map {f : β → Option γ} {g : α → β} : ∀ {l : List α}, mapS (l.map g) f = mapS l fun a => f (g a)
  | [] => rfl
  | a :: l => by show (f (g a)).bind _ = (f (g a)).bind _; rw [mapS_map]
theorem mapS_ok {f : α → Option β} {g : α → β} : ∀ {l : List α}, (∀ a ∈ l, f a = some (g a)) → mapS l f = some (l.map g)
  | [], _ => rfl
  | a :: l, h => by
    show (f a).bind _ = _
    rw [h a (List.mem_cons_self ..), mapS_ok (l := l) fun b hb => h b (List.mem_cons_of_mem _ hb)]; rfl
theorem mapS_of {f : β → Option γ} {m : α → β} {g : α → γ} {l : List α} (h : ∀ a ∈ l, f (m a) = some (g a)) : mapS (l.map m) f = some (l.map g) := by rw [mapS_map]; exact mapS_ok h
theorem filS_map {f : β → Option (Option γ)} {g : α → β} : ∀ {l : List α}, filS (l.map g) f = filS l fun a => f (g a)
  | [] => rfl
  | a :: l => by show (f (g a)).bind _ = (f (g a)).bind _; rw [filS_map]
theorem filS_ok {f : α → Option (Option β)} {p : α → Bool} {g : α → β} : ∀ {l : List α}, (∀ a ∈ l, f a = some (if p a = true then some (g a) else none)) → filS l f = some ((l.filter p).map g)
  | [], _ => rfl
  | a :: l, h => by
    show (f a).bind _ = _
    rw [h a (List.mem_cons_self ..), filS_ok (l := l) fun b hb => h b (List.mem_cons_of_mem _ hb)]
    by_cases hp : p a = true
    · rw [if_pos hp, List.filter_cons_of_pos hp]; rfl
    · rw [if_neg hp, List.filter_cons_of_neg hp]; rfl
theorem filS_of {f : β → Option (Option γ)} {m : α → β} {p : α → Bool} {g : α → γ} {l : List α} (h : ∀ a ∈ l, f (m a) = some (if p a = true then some (g a) else none)) : filS (l.map m) f = some ((l.filter p).map g) := by rw [filS_map]; exact filS_ok h
theorem forS_map {f : β → σ → Option (Out × σ)} {g : α → β} : ∀ {l : List α} {s : σ}, forS (l.map g) f s = forS l (fun a s => f (g a) s) s
  | [], s => rfl
  | a :: l, s => by
    show (f (g a) s).bind _ = (f (g a) s).bind _
    congr 1; funext p
    split <;> first | rfl | exact forS_map
theorem forS_inv {f : α → σ → Option (Out × σ)} (Inv : Nat → σ → Prop) : ∀ {l : List α} {k : Nat} {s : σ}, Inv k s → (∀ i a s, l[i]? = some a → Inv (k + i) s → ∃ s', f a s = some (.nx, s') ∧ Inv (k + i + 1) s') → ∃ s', forS l f s = some (.nx, s') ∧ Inv (k + l.length) s'
  | [], k, s, h0, _ => ⟨s, rfl, h0⟩
  | a :: l, k, s, h0, hs => by
    obtain ⟨s1, h1, h2⟩ := hs 0 a s rfl h0
    obtain ⟨s', h3, h4⟩ := forS_inv Inv (l := l) (k := k + 1) h2 fun i b t hb hi => by
      have := hs (i + 1) b t (by simpa using hb) (by rw [show k + (i + 1) = k + 1 + i by omega]; exact hi)
      rw [show k + (i + 1) + 1 = k + 1 + i + 1 by omega] at this
      exact this
    refine ⟨s', ?_, by rw [List.length_cons, show k + (l.length + 1) = k + 1 + l.length by omega]; exact h4⟩
    show (f a s).bind _ = _
    rw [h1]; exact h3
theorem forS_range {f : PyData → σ → Option (Out × σ)} (Inv : Nat → σ → Prop) {n : Nat} {s : σ} (h0 : Inv 0 s) (hs : ∀ i s, i < n → Inv i s → ∃ s', f (natD i) s = some (.nx, s') ∧ Inv (i + 1) s') : ∃ s', forS ((List.range n).map natD) f s = some (.nx, s') ∧ Inv n s' := by
  rw [forS_map]
  obtain ⟨s', h1, h2⟩ := forS_inv (f := fun a s => f (natD a) s) Inv (l := List.range n) (k := 0) h0 fun i a s ha hi => by
    obtain ⟨hn, rfl⟩ := List.getElem?_eq_some_iff.mp ha
    rw [List.length_range] at hn
    rw [List.getElem_range]
    rw [Nat.zero_add] at hi ⊢
    exact hs i s hn hi
  rw [List.length_range, Nat.zero_add] at h2
  exact ⟨s', h1, h2⟩
theorem forS_all {f : α → Unit → Option (Out × Unit)} {l : List α} (h : ∀ a ∈ l, f a () = some (.nx, ())) : forS l f () = some (.nx, ()) := by
  induction l with
  | nil => rfl
  | cons a l ih =>
    show (f a ()).bind _ = _
    rw [h a (List.mem_cons_self ..)]
    exact ih fun b hb => h b (List.mem_cons_of_mem _ hb)
def rtO : Option PyData → Out
  | some d => .rt d
  | none => .nx
@[simp] theorem thenS_rtO {o : Option PyData} {s : σ} {Kk : σ → Option β} {R : PyData → σ → Option β} : thenS (rtO o, s) Kk R = o.elim (Kk s) fun d => R d s := by cases o <;> rfl
theorem whR_step {n : Nat} {c : σ → Option Bool} {f : σ → Option (Out × σ)} {s s' : σ} (h : c s = some true) (h2 : f s = some (.nx, s')) : whR (n + 1) c f s = whR n c f s' := by
  show (c s).bind _ = _
  rw [h]
  show (f s).bind _ = _
  rw [h2]; rfl
theorem whR_ret {n : Nat} {c : σ → Option Bool} {f : σ → Option (Out × σ)} {s s' : σ} {d : PyData} (h : c s = some true) (h2 : f s = some (.rt d, s')) : whR (n + 1) c f s = some (.rt d, s') := by
  show (c s).bind _ = _
  rw [h]
  show (f s).bind _ = _
  rw [h2]; rfl
theorem whR_end {n : Nat} {c : σ → Option Bool} {f : σ → Option (Out × σ)} {s : σ} (h : c s = some false) : whR (n + 1) c f s = some (.nx, s) := by
  show (c s).bind _ = _
  rw [h]; rfl
end
mutual
def wt : PyData → Nat
  | .none => 20
  | .bool _ => 20
  | .int i => 64 * i.natAbs.log2 + 20
  | .str x => (reprText x).length + 20
  | .list xs => wtL xs + 20
  | .tuple xs => wtL xs + 20
  | .dict kvs => (PyData.dict kvs).shown.length + 20
def wtL : List PyData → Nat
  | [] => 0
  | x :: xs => wt x + 2 + wtL xs
end
def pile (ts : List Str) : Nat := (ts.map fun t => t.length + 2).sum
theorem textFrom_le : ∀ (ts : List Str) (k : Nat) (acc : Str), (textFrom k acc ts).length ≤ acc.length + pile ts
  | [], k, acc => Nat.le_refl _
  | t :: r, k, acc => by
    have ih := textFrom_le r (k + 1) (acc ++ (if k > 0 then ", " else "" : String) ++ t)
    have e : (acc ++ (if k > 0 then ", " else "" : String) ++ t).length = acc.length + (if k > 0 then 2 else 0) + t.length := by
      rw [strLen_append, strLen_append]
      split <;> rfl
    have : pile (t :: r) = t.length + 2 + pile r := rfl
    have h2 : (if k > 0 then 2 else 0) ≤ 2 := by split <;> omega
    show (textFrom (k + 1) _ r).length ≤ _
    omega
theorem join_le : ∀ ts : List Str, (Str.join ", " ts).length ≤ pile ts
  | [] => Nat.le_refl _
  | [x] => by show x.length ≤ x.length + 2 + 0; omega
  | x :: y :: r => by
    have ih := join_le (y :: r)
    show (x ++ ", " ++ Str.join ", " (y :: r)).length ≤ x.length + 2 + pile (y :: r)
    rw [strLen_append, strLen_append]
    have : ((", " : String) : Str).length = 2 := rfl
    omega
theorem int_shown (i : Int) : (PyData.int i).shown.length ≤ i.natAbs.log2 + 20 := by
  have hp : i.natAbs < 10 ^ (i.natAbs.log2 + 1) := by
    have : i.natAbs < 2 ^ (i.natAbs.log2 + 1) := by
      by_cases z : i.natAbs = 0
      · rw [z]; decide
      · exact Nat.lt_log2_self
    exact Nat.lt_of_lt_of_le this (Nat.pow_le_pow_left (by decide) _)
  have := int_text_length_le10 (k := i.natAbs.log2 + 1) (by omega) hp
  show (Str.ofString (toString i)).length ≤ _
  rw [ofString_length]
  omega
mutual
theorem shown_le : ∀ d : PyData, d.shown.length ≤ wt d
  | .none => by show (4 : Nat) ≤ 20; decide
  | .bool b => by cases b <;> decide
  | .int i => by rw [wt]; have := int_shown i; omega
  | .str x => by rw [wt, PyData.shown]; omega
  | .list xs => by
    rw [wt, PyData.shown, listText, strLen_append]
    have := textFrom_le (PyData.shownAll xs) 0 "["
    have e1 : ((("[" : String) : Str)).length = 1 := rfl
    have e2 : ((("]" : String) : Str)).length = 1 := rfl
    have := shownAll_le xs
    omega
  | .tuple xs => by
    rw [wt, PyData.shown, tupleText, strLen_append, strLen_append]
    have := join_le (PyData.shownAll xs)
    have e1 : ((("(" : String) : Str)).length = 1 := rfl
    have e2 : (((if (PyData.shownAll xs).length == 1 then ",)" else ")" : String) : Str)).length ≤ 2 := by split <;> decide
    have := shownAll_le xs
    omega
  | .dict kvs => by rw [wt]; omega
theorem shownAll_le : ∀ xs : List PyData, pile (PyData.shownAll xs) ≤ wtL xs
  | [] => by rw [wtL, PyData.shownAll]; exact Nat.le_refl _
  | x :: xs => by
    rw [wtL, PyData.shownAll]
    have h1 := shown_le x
    have h2 := shownAll_le xs
    show x.shown.length + 2 + pile (PyData.shownAll xs) ≤ _
    omega
end
structure Vl (n s : Nat) (d : PyData) : Prop where
  sh : d.showable = true
  dp : d.depth ≤ n
  wt : wt d ≤ s
structure VlL (n s : Nat) (xs : List PyData) : Prop where
  sh : PyData.showableAll xs = true
  dp : PyData.depthAll xs ≤ n
  wt : wtL xs ≤ s
section
variable {n s t n' s' : Nat} {d x : PyData} {xs ys : List PyData}
theorem Vl.mono (h : Vl n s d) (a : n ≤ n') (b : s ≤ s') : Vl n' s' d := ⟨h.sh, Nat.le_trans h.dp a, Nat.le_trans h.wt b⟩
theorem VlL.mono (h : VlL n s xs) (a : n ≤ n') (b : s ≤ s') : VlL n' s' xs := ⟨h.sh, Nat.le_trans h.dp a, Nat.le_trans h.wt b⟩
theorem VlL.nil : VlL n s [] := ⟨by rw [PyData.showableAll], by rw [PyData.depthAll]; omega, by rw [wtL]; omega⟩
theorem VlL.cons (h : Vl n s x) (r : VlL n t xs) : VlL n (s + 2 + t) (x :: xs) :=
  ⟨by rw [PyData.showableAll, h.sh, r.sh]; rfl, by rw [PyData.depthAll]; exact Nat.max_le.mpr ⟨h.dp, r.dp⟩, by rw [wtL]; have := h.wt; have := r.wt; omega⟩
theorem VlL.head (h : VlL n s (x :: xs)) : Vl n s x := by
  obtain ⟨a, b, c⟩ := h
  rw [PyData.showableAll, Bool.and_eq_true] at a
  rw [PyData.depthAll] at b
  rw [wtL] at c
  exact ⟨a.1, Nat.le_trans (Nat.le_max_left _ _) b, by omega⟩
theorem VlL.tail (h : VlL n s (x :: xs)) : VlL n s xs := by
  obtain ⟨a, b, c⟩ := h
  rw [PyData.showableAll, Bool.and_eq_true] at a
  rw [PyData.depthAll] at b
  rw [wtL] at c
  exact ⟨a.2, Nat.le_trans (Nat.le_max_right _ _) b, by omega⟩
theorem VlL.split (h : VlL n s (x :: xs)) : ∃ s1 s2, Vl n s1 x ∧ VlL n s2 xs ∧ s1 + 2 + s2 ≤ s := by
  have c := h.wt
  rw [wtL] at c
  exact ⟨DL.wt x, DL.wtL xs, ⟨h.head.sh, h.head.dp, Nat.le_refl _⟩, ⟨h.tail.sh, h.tail.dp, Nat.le_refl _⟩, c⟩
theorem VlL.mem : ∀ {xs : List PyData}, VlL n s xs → x ∈ xs → Vl n s x
  | y :: ys, h, m => by
    rcases List.mem_cons.mp m with rfl | m
    · exact h.head
    · exact VlL.mem h.tail m
theorem VlL.append : ∀ {xs : List PyData} {s : Nat}, VlL n s xs → VlL n t ys → VlL n (s + t) (xs ++ ys)
  | [], s, _, r => r.mono (Nat.le_refl _) (by omega)
  | x :: xs, s, h, r => by
    obtain ⟨s1, s2, h1, h2, e⟩ := h.split
    exact (VlL.cons h1 (VlL.append h2 r)).mono (Nat.le_refl _) (by omega)
theorem VlL.drop : ∀ {xs : List PyData} (k : Nat), VlL n s xs → VlL n s (xs.drop k)
  | xs, 0, h => h
  | [], k + 1, h => h
  | x :: xs, k + 1, h => VlL.drop (xs := xs) k h.tail
theorem VlL.take : ∀ {xs : List PyData} {s : Nat} (k : Nat), VlL n s xs → VlL n s (xs.take k)
  | xs, s, 0, h => by rw [List.take_zero]; exact .nil
  | [], s, k + 1, h => h
  | x :: xs, s, k + 1, h => by
    obtain ⟨s1, s2, h1, h2, e⟩ := h.split
    exact (VlL.cons h1 (VlL.take (xs := xs) k h2)).mono (Nat.le_refl _) (by omega)
theorem VlL.reverse : ∀ {xs : List PyData} {s : Nat}, VlL n s xs → VlL n s xs.reverse
  | [], s, h => h
  | x :: xs, s, h => by
    obtain ⟨s1, s2, h1, h2, e⟩ := h.split
    rw [List.reverse_cons]
    exact ((VlL.reverse h2).append (VlL.cons h1 (VlL.nil (s := 0)))).mono (Nat.le_refl _) (by omega)
theorem VlL.tuple (h : VlL n s xs) : Vl (n + 1) (s + 20) (.tuple xs) := ⟨by rw [PyData.showable]; exact h.sh, by rw [PyData.depth]; have := h.dp; omega, by rw [DL.wt]; have := h.wt; omega⟩
theorem VlL.list (h : VlL n s xs) : Vl (n + 1) (s + 20) (.list xs) := ⟨by rw [PyData.showable]; exact h.sh, by rw [PyData.depth]; have := h.dp; omega, by rw [DL.wt]; have := h.wt; omega⟩
theorem Vl.tup (h : Vl (n + 1) s (.tuple xs)) : VlL n s xs := ⟨by have := h.sh; rwa [PyData.showable] at this, by have := h.dp; rw [PyData.depth] at this; omega, by have := h.wt; rw [DL.wt] at this; omega⟩
theorem VlL.len : ∀ {xs : List PyData} {s : Nat}, VlL n s xs → xs.length ≤ s
  | [], _, _ => Nat.zero_le _
  | x :: xs, s, h => by
    obtain ⟨s1, s2, _, h2, e⟩ := h.split
    have := VlL.len h2
    rw [List.length_cons]; omega
theorem gRepr_ok (h : Vl n s d) (hn : n ≤ 58) (hs : s ≤ 16000000) : gRepr d = some (.str d.shown) := by
  unfold gRepr
  rw [if_pos ⟨h.sh, Nat.le_trans h.dp hn, Nat.le_trans (shown_le d) (Nat.le_trans h.wt (Nat.le_trans hs (by decide)))⟩]
end
end DL
namespace DL
open PySem L2 PySem.Spec
section
variable {i j : Int} {b c : Bool} {x y z d : PyData} {xs ys zs : List PyData} {s t : Str} {α β γ σ : Type}
@[simp] theorem ints_map {l : List Int} : intsOf (l.map .int) = some l := by
  induction l with
  | nil => rfl
  | cons a l ih => show (intsOf (l.map .int)).map (a :: ·) = _; rw [ih]; rfl
end
end DL
namespace DL
open PySem L2 PySem.Spec
section
variable {tw : CT} {j : Nat} {gg : PyData → Option PyData} {f : Ef} {e : En}
@[simp] theorem rAsgE1 : sAsgE1 tw j gg f e = (f e).bind fun p => (gIsOk tw p.1).bind fun w => (asB w).bind fun b => if b = true then (gUn p.1).bind fun d => (gg d).bind fun r => some (.nx, p.2.set j r) else some (.rt p.1, p.2) := rfl
end
end DL
namespace DL
open PySem L2 PySem.Spec
@[simp] theorem stb_e {a : Addr} {d : Option Addr} {fl : List (Str × V)} {c : Str} : stb (.e a d fl c) = false := rfl
section
variable {tw : CT} {j k : Nat} {call : Ef} {e : En} {g : Gq}
@[simp] theorem rAppE : sAppE tw j k call e = (call e).bind fun p => (gIsOk tw p.1).bind fun w => (asB w).bind fun b => if b = true then (gUn p.1).bind fun d => (gAppF k (e.getD j .none) d).bind fun d2 => some (.nx, p.2.set j d2) else some (.rt p.1, p.2) := rfl
@[simp] theorem rLstP : eLstP g e = (g e).bind fun d => (gList d).bind fun r => some (r, e) := rfl
end
end DL
namespace DL
open PySem L2 PySem.Spec
def dcB (vs : List Nat) (gf : Gf) (tf : Bf) (kf vf : Ef) (d : PyData) (e : En) : Option (Option (PyData × PyData) × En) :=
  (gf d e).bind fun e1 => (tf e1).bind fun p => if p.1 = true then (kf p.2).bind fun q => (vf q.2).bind fun r => some (some (q.1, r.1), restE e r.2 vs) else some (none, restE e p.2 vs)
@[simp] theorem rDc {it : Lf} {vs : List Nat} {gf : Gf} {tf : Bf} {kf vf : Ef} {e : En} : eDc it vs gf tf kf vf e = (it e).bind fun p => (dcL vs gf tf kf vf p.1 [] p.2).bind fun q => some (.dict (q.1.map kvD), restE p.2 q.2 vs) := rfl
@[simp] theorem rdcB {vs : List Nat} {gf : Gf} {tf : Bf} {kf vf : Ef} {d : PyData} {e : En} : dcB vs gf tf kf vf d e = (gf d e).bind fun e1 => (tf e1).bind fun p => if p.1 = true then (kf p.2).bind fun q => (vf q.2).bind fun r => some (some (q.1, r.1), restE e r.2 vs) else some (none, restE e p.2 vs) := rfl
def gThIn : PyData → PyData → Option PyData
  | .list (_ :: ds), r => some (.list (r :: ds))
  | _, _ => none
def gThOut : PyData → PyData → Option PyData
  | r, .list (_ :: es) => (grd (flat1 r && es.all flatF)).bind fun _ => some (.list (.none :: es))
  | _, _ => none
@[simp] theorem rThawO {i j : Nat} {f : Ef} {e : En} : eThawO i j f e = (gThIn (e.getD i .none) (e.getD j .none)).bind fun o => (f (e.set i o)).bind fun p => (gThOut p.1 (p.2.getD i .none)).bind fun w => some (p.1, e.set i w) := by
  unfold eThawO
  cases h : e.getD i .none with
  | list ds =>
    cases ds with
    | nil => rfl
    | cons d ds =>
      show (f (e.set i (.list (e.getD j .none :: ds)))).bind _ = (f (e.set i (.list (e.getD j .none :: ds)))).bind _
      congr 1
      funext p
      cases h2 : p.2.getD i .none with
      | list es =>
        cases es with
        | nil => rfl
        | cons e0 es =>
          show (grd _).bind _ = ((grd _).bind _).bind _
          rw [Option.bind_assoc]
          rfl
      | _ => rfl
  | _ => rfl
end DL
namespace LK
open PySem L2 PySem.Spec PyProof.Rows DL
def topS (i : Nat) : Stmt := PySem.Challenge.pw_listedges_k08_errors_and_limits.main.body.getD i (.Pass ⟨0, 0, 0, 0⟩)
abbrev st__law_state : Stmt := topS 36
theorem sc__law_state : FnScope ["_law_script", "_law_cells", "_law_cell"] ["_law_script"] (defScope st__law_state) := ⟨rfl, rfl, rfl, by decide +kernel, rfl, by decide +kernel, by decide +kernel⟩
abbrev st__law_draw : Stmt := topS 37
theorem sc__law_draw : FnScope ["_law_state_here", "_law_limit", "_law_rest", "_law_cell", "_law_mixed"] ["_law_state_here", "_law_limit"] (defScope st__law_draw) := ⟨rfl, rfl, rfl, by decide +kernel, rfl, by decide +kernel, by decide +kernel⟩
abbrev st__law_odd : Stmt := topS 38
theorem sc__law_odd : FnScope ["_law_state_here", "_law_some"] ["_law_state_here"] (defScope st__law_odd) := ⟨rfl, rfl, rfl, by decide +kernel, rfl, by decide +kernel, by decide +kernel⟩
abbrev st__law_errors : Stmt := topS 41
theorem sc__law_errors : FnScope ["_law_value", "_law_other", "_law_found"] ["_law_value", "_law_other"] (defScope st__law_errors) := ⟨rfl, rfl, rfl, by decide +kernel, rfl, by decide +kernel, by decide +kernel⟩
abbrev st__law_flags : Stmt := topS 40
theorem sc__law_flags : FnScope ["_law_e", "_law_found"] ["_law_e"] (defScope st__law_flags) := ⟨rfl, rfl, rfl, by decide +kernel, rfl, by decide +kernel, by decide +kernel⟩
abbrev st__law_fields : Stmt := topS 42
theorem sc__law_fields : FnScope ["_law_value", "_law_other", "_law_found"] ["_law_value", "_law_other"] (defScope st__law_fields) := ⟨rfl, rfl, rfl, by decide +kernel, rfl, by decide +kernel, by decide +kernel⟩
abbrev st__law_same : Stmt := topS 39
theorem sc__law_same : FnScope ["_law_found", "_law_due"] ["_law_found", "_law_due"] (defScope st__law_same) := ⟨rfl, rfl, rfl, by decide +kernel, rfl, by decide +kernel, by decide +kernel⟩
abbrev st_law : Stmt := topS 43
theorem sc_law : FnScope ["_law_script", "_law_state_here", "_law_turn", "_law_value", "_law_other", "_law_errors_here", "_law_k", "_law_bases", "_law_found", "_law_field", "_law_j"] ["_law_script"] (defScope st_law) := ⟨rfl, rfl, rfl, by decide +kernel, rfl, by decide +kernel, by decide +kernel⟩
abbrev ini_TooLarge : Stmt := clsAt (topS 2) 0
theorem sci_TooLarge : FnScope ["self", "bound"] ["self", "bound"] (defScope ini_TooLarge) := ⟨rfl, rfl, rfl, by decide +kernel, rfl, by decide +kernel, by decide +kernel⟩
abbrev ini_Unplaced : Stmt := clsAt (topS 3) 0
theorem sci_Unplaced : FnScope ["self", "lesson"] ["self", "lesson"] (defScope ini_Unplaced) := ⟨rfl, rfl, rfl, by decide +kernel, rfl, by decide +kernel, by decide +kernel⟩
abbrev ini_ShortList : Stmt := clsAt (topS 4) 0
theorem sci_ShortList : FnScope ["self", "lesson"] ["self", "lesson"] (defScope ini_ShortList) := ⟨rfl, rfl, rfl, by decide +kernel, rfl, by decide +kernel, by decide +kernel⟩
abbrev ini_BadOffer : Stmt := clsAt (topS 5) 0
theorem sci_BadOffer : FnScope ["self", "value"] ["self", "value"] (defScope ini_BadOffer) := ⟨rfl, rfl, rfl, by decide +kernel, rfl, by decide +kernel, by decide +kernel⟩
abbrev ini_AlreadyHeld : Stmt := clsAt (topS 6) 0
theorem sci_AlreadyHeld : FnScope ["self", "lesson"] ["self", "lesson"] (defScope ini_AlreadyHeld) := ⟨rfl, rfl, rfl, by decide +kernel, rfl, by decide +kernel, by decide +kernel⟩
abbrev ini_TooManyOffers : Stmt := clsAt (topS 7) 0
theorem sci_TooManyOffers : FnScope ["self", "bound"] ["self", "bound"] (defScope ini_TooManyOffers) := ⟨rfl, rfl, rfl, by decide +kernel, rfl, by decide +kernel, by decide +kernel⟩
abbrev ini_TooFewHours : Stmt := clsAt (topS 9) 0
theorem sci_TooFewHours : FnScope ["self", "degree"] ["self", "degree"] (defScope ini_TooFewHours) := ⟨rfl, rfl, rfl, by decide +kernel, rfl, by decide +kernel, by decide +kernel⟩
abbrev ini_TooManyLessons : Stmt := clsAt (topS 10) 0
theorem sci_TooManyLessons : FnScope ["self", "bound"] ["self", "bound"] (defScope ini_TooManyLessons) := ⟨rfl, rfl, rfl, by decide +kernel, rfl, by decide +kernel, by decide +kernel⟩
abbrev ini_NoSchedule : Stmt := clsAt (topS 13) 0
theorem sci_NoSchedule : FnScope ["self", "value"] ["self", "value"] (defScope ini_NoSchedule) := ⟨rfl, rfl, rfl, by decide +kernel, rfl, by decide +kernel, by decide +kernel⟩
abbrev ini_BadRoster : Stmt := clsAt (topS 14) 0
theorem sci_BadRoster : FnScope ["self", "error"] ["self", "error"] (defScope ini_BadRoster) := ⟨rfl, rfl, rfl, by decide +kernel, rfl, by decide +kernel, by decide +kernel⟩
abbrev ini_BadList : Stmt := clsAt (topS 16) 0
theorem sci_BadList : FnScope ["self", "value"] ["self", "value"] (defScope ini_BadList) := ⟨rfl, rfl, rfl, by decide +kernel, rfl, by decide +kernel, by decide +kernel⟩
abbrev ini_TooManyEdits : Stmt := clsAt (topS 17) 0
theorem sci_TooManyEdits : FnScope ["self", "bound"] ["self", "bound"] (defScope ini_TooManyEdits) := ⟨rfl, rfl, rfl, by decide +kernel, rfl, by decide +kernel, by decide +kernel⟩
abbrev ini_BatchFailed : Stmt := clsAt (topS 19) 0
theorem sci_BatchFailed : FnScope ["self", "index"] ["self", "index"] (defScope ini_BatchFailed) := ⟨rfl, rfl, rfl, by decide +kernel, rfl, by decide +kernel, by decide +kernel⟩
abbrev ini_BadText : Stmt := clsAt (topS 21) 0
theorem sci_BadText : FnScope ["self", "index"] ["self", "index"] (defScope ini_BadText) := ⟨rfl, rfl, rfl, by decide +kernel, rfl, by decide +kernel, by decide +kernel⟩
abbrev ini_NoFreeHour : Stmt := clsAt (topS 11) 0
theorem sci_NoFreeHour : FnScope ["self", "side", "person"] ["self", "side", "person"] (defScope ini_NoFreeHour) := ⟨rfl, rfl, rfl, by decide +kernel, rfl, by decide +kernel, by decide +kernel⟩
abbrev ini_NoLesson : Stmt := clsAt (topS 22) 0
theorem sci_NoLesson : FnScope ["self", "value"] ["self", "value"] (defScope ini_NoLesson) := ⟨rfl, rfl, rfl, by decide +kernel, rfl, by decide +kernel, by decide +kernel⟩
abbrev ini_NoIndex : Stmt := clsAt (topS 24) 0
theorem sci_NoIndex : FnScope ["self", "value"] ["self", "value"] (defScope ini_NoIndex) := ⟨rfl, rfl, rfl, by decide +kernel, rfl, by decide +kernel, by decide +kernel⟩
abbrev ini_NoVersion : Stmt := clsAt (topS 25) 0
theorem sci_NoVersion : FnScope ["self", "value"] ["self", "value"] (defScope ini_NoVersion) := ⟨rfl, rfl, rfl, by decide +kernel, rfl, by decide +kernel, by decide +kernel⟩
abbrev ini_NoPerson : Stmt := clsAt (topS 23) 0
theorem sci_NoPerson : FnScope ["self", "side", "value"] ["self", "side", "value"] (defScope ini_NoPerson) := ⟨rfl, rfl, rfl, by decide +kernel, rfl, by decide +kernel, by decide +kernel⟩
def hd0 : List He.DefD := [⟨("_law_state", none), "_law_state", "_law_state", defArgs st__law_state, defBody st__law_state, defScope st__law_state, [], []⟩,
  ⟨("_law_draw", none), "_law_draw", "_law_draw", defArgs st__law_draw, defBody st__law_draw, defScope st__law_draw, [], []⟩,
  ⟨("_law_odd", none), "_law_odd", "_law_odd", defArgs st__law_odd, defBody st__law_odd, defScope st__law_odd, [], []⟩,
  ⟨("_law_errors", none), "_law_errors", "_law_errors", defArgs st__law_errors, defBody st__law_errors, defScope st__law_errors, [], []⟩,
  ⟨("_law_flags", none), "_law_flags", "_law_flags", defArgs st__law_flags, defBody st__law_flags, defScope st__law_flags, [], []⟩,
  ⟨("_law_fields", none), "_law_fields", "_law_fields", defArgs st__law_fields, defBody st__law_fields, defScope st__law_fields, [], []⟩,
  ⟨("_law_same", none), "_law_same", "_law_same", defArgs st__law_same, defBody st__law_same, defScope st__law_same, [], []⟩,
  ⟨("law", none), "law", "law", defArgs st_law, defBody st_law, defScope st_law, [], []⟩,
  ⟨("TooLarge", some "__init__"), "__init__", "TooLarge.__init__", defArgs ini_TooLarge, defBody ini_TooLarge, defScope ini_TooLarge, [], []⟩,
  ⟨("Unplaced", some "__init__"), "__init__", "Unplaced.__init__", defArgs ini_Unplaced, defBody ini_Unplaced, defScope ini_Unplaced, [], []⟩,
  ⟨("ShortList", some "__init__"), "__init__", "ShortList.__init__", defArgs ini_ShortList, defBody ini_ShortList, defScope ini_ShortList, [], []⟩,
  ⟨("BadOffer", some "__init__"), "__init__", "BadOffer.__init__", defArgs ini_BadOffer, defBody ini_BadOffer, defScope ini_BadOffer, [], []⟩,
  ⟨("AlreadyHeld", some "__init__"), "__init__", "AlreadyHeld.__init__", defArgs ini_AlreadyHeld, defBody ini_AlreadyHeld, defScope ini_AlreadyHeld, [], []⟩,
  ⟨("TooManyOffers", some "__init__"), "__init__", "TooManyOffers.__init__", defArgs ini_TooManyOffers, defBody ini_TooManyOffers, defScope ini_TooManyOffers, [], []⟩,
  ⟨("TooFewHours", some "__init__"), "__init__", "TooFewHours.__init__", defArgs ini_TooFewHours, defBody ini_TooFewHours, defScope ini_TooFewHours, [], []⟩,
  ⟨("TooManyLessons", some "__init__"), "__init__", "TooManyLessons.__init__", defArgs ini_TooManyLessons, defBody ini_TooManyLessons, defScope ini_TooManyLessons, [], []⟩,
  ⟨("NoSchedule", some "__init__"), "__init__", "NoSchedule.__init__", defArgs ini_NoSchedule, defBody ini_NoSchedule, defScope ini_NoSchedule, [], []⟩,
  ⟨("BadRoster", some "__init__"), "__init__", "BadRoster.__init__", defArgs ini_BadRoster, defBody ini_BadRoster, defScope ini_BadRoster, [], []⟩,
  ⟨("BadList", some "__init__"), "__init__", "BadList.__init__", defArgs ini_BadList, defBody ini_BadList, defScope ini_BadList, [], []⟩,
  ⟨("TooManyEdits", some "__init__"), "__init__", "TooManyEdits.__init__", defArgs ini_TooManyEdits, defBody ini_TooManyEdits, defScope ini_TooManyEdits, [], []⟩,
  ⟨("BatchFailed", some "__init__"), "__init__", "BatchFailed.__init__", defArgs ini_BatchFailed, defBody ini_BatchFailed, defScope ini_BatchFailed, [], []⟩,
  ⟨("BadText", some "__init__"), "__init__", "BadText.__init__", defArgs ini_BadText, defBody ini_BadText, defScope ini_BadText, [], []⟩,
  ⟨("NoFreeHour", some "__init__"), "__init__", "NoFreeHour.__init__", defArgs ini_NoFreeHour, defBody ini_NoFreeHour, defScope ini_NoFreeHour, [], []⟩,
  ⟨("NoLesson", some "__init__"), "__init__", "NoLesson.__init__", defArgs ini_NoLesson, defBody ini_NoLesson, defScope ini_NoLesson, [], []⟩,
  ⟨("NoIndex", some "__init__"), "__init__", "NoIndex.__init__", defArgs ini_NoIndex, defBody ini_NoIndex, defScope ini_NoIndex, [], []⟩,
  ⟨("NoVersion", some "__init__"), "__init__", "NoVersion.__init__", defArgs ini_NoVersion, defBody ini_NoVersion, defScope ini_NoVersion, [], []⟩,
  ⟨("NoPerson", some "__init__"), "__init__", "NoPerson.__init__", defArgs ini_NoPerson, defBody ini_NoPerson, defScope ini_NoPerson, [], []⟩]
abbrev A_AlreadyHeld (K : PySem.W.Frag) : Addr := He.ga K "AlreadyHeld"
abbrev A_BadBatch (K : PySem.W.Frag) : Addr := He.ga K "BadBatch"
abbrev A_BadList (K : PySem.W.Frag) : Addr := He.ga K "BadList"
abbrev A_BadLists (K : PySem.W.Frag) : Addr := He.ga K "BadLists"
abbrev A_BadOffer (K : PySem.W.Frag) : Addr := He.ga K "BadOffer"
abbrev A_BadRoster (K : PySem.W.Frag) : Addr := He.ga K "BadRoster"
abbrev A_BadText (K : PySem.W.Frag) : Addr := He.ga K "BadText"
abbrev A_BatchFailed (K : PySem.W.Frag) : Addr := He.ga K "BatchFailed"
abbrev A_Busy (K : PySem.W.Frag) : Addr := He.ga K "Busy"
abbrev A_HasCycle (K : PySem.W.Frag) : Addr := He.ga K "HasCycle"
abbrev A_ListError (K : PySem.W.Frag) : Addr := He.ga K "ListError"
abbrev A_NoFreeHour (K : PySem.W.Frag) : Addr := He.ga K "NoFreeHour"
abbrev A_NoIndex (K : PySem.W.Frag) : Addr := He.ga K "NoIndex"
abbrev A_NoLesson (K : PySem.W.Frag) : Addr := He.ga K "NoLesson"
abbrev A_NoPerson (K : PySem.W.Frag) : Addr := He.ga K "NoPerson"
abbrev A_NoSchedule (K : PySem.W.Frag) : Addr := He.ga K "NoSchedule"
abbrev A_NoVersion (K : PySem.W.Frag) : Addr := He.ga K "NoVersion"
abbrev A_NothingToUndo (K : PySem.W.Frag) : Addr := He.ga K "NothingToUndo"
abbrev A_ShortList (K : PySem.W.Frag) : Addr := He.ga K "ShortList"
abbrev A_TooFewHours (K : PySem.W.Frag) : Addr := He.ga K "TooFewHours"
abbrev A_TooLarge (K : PySem.W.Frag) : Addr := He.ga K "TooLarge"
abbrev A_TooManyEdits (K : PySem.W.Frag) : Addr := He.ga K "TooManyEdits"
abbrev A_TooManyLessons (K : PySem.W.Frag) : Addr := He.ga K "TooManyLessons"
abbrev A_TooManyOffers (K : PySem.W.Frag) : Addr := He.ga K "TooManyOffers"
abbrev A_Unplaced (K : PySem.W.Frag) : Addr := He.ga K "Unplaced"
def hb0 (K : PySem.W.Frag) : List Bool := [decide (PySem.W.nsIn K mainGlobals "_law_state" = some (some (.ref (He.ga K "_law_state")))),
  decide (PySem.W.nsIn K mainGlobals "_law_draw" = some (some (.ref (He.ga K "_law_draw")))),
  decide (PySem.W.nsIn K mainGlobals "_law_odd" = some (some (.ref (He.ga K "_law_odd")))),
  decide (PySem.W.nsIn K mainGlobals "_law_errors" = some (some (.ref (He.ga K "_law_errors")))),
  decide (PySem.W.nsIn K mainGlobals "_law_flags" = some (some (.ref (He.ga K "_law_flags")))),
  decide (PySem.W.nsIn K mainGlobals "_law_fields" = some (some (.ref (He.ga K "_law_fields")))),
  decide (PySem.W.nsIn K mainGlobals "_law_same" = some (some (.ref (He.ga K "_law_same")))),
  decide (PySem.W.nsIn K mainGlobals "law" = some (some (.ref (He.ga K "law")))),
  decide (PySem.W.nsIn K mainGlobals "TooLarge" = some (some (.ref (A_TooLarge K)))),
  decide (PySem.W.subIn K (.ref (A_TooLarge K)) (.type "BaseException") = some true),
  decide (PySem.W.typeIn K (.ref (A_TooLarge K)) = some (.type "type")),
  PySem.W.hasDictIn K (A_TooLarge K),
  decide (PySem.W.nsIn K mainGlobals "Unplaced" = some (some (.ref (A_Unplaced K)))),
  decide (PySem.W.subIn K (.ref (A_Unplaced K)) (.type "BaseException") = some true),
  decide (PySem.W.typeIn K (.ref (A_Unplaced K)) = some (.type "type")),
  PySem.W.hasDictIn K (A_Unplaced K),
  decide (PySem.W.nsIn K mainGlobals "ShortList" = some (some (.ref (A_ShortList K)))),
  decide (PySem.W.subIn K (.ref (A_ShortList K)) (.type "BaseException") = some true),
  decide (PySem.W.typeIn K (.ref (A_ShortList K)) = some (.type "type")),
  PySem.W.hasDictIn K (A_ShortList K),
  decide (PySem.W.nsIn K mainGlobals "BadOffer" = some (some (.ref (A_BadOffer K)))),
  decide (PySem.W.subIn K (.ref (A_BadOffer K)) (.type "BaseException") = some true),
  decide (PySem.W.typeIn K (.ref (A_BadOffer K)) = some (.type "type")),
  PySem.W.hasDictIn K (A_BadOffer K),
  decide (PySem.W.nsIn K mainGlobals "AlreadyHeld" = some (some (.ref (A_AlreadyHeld K)))),
  decide (PySem.W.subIn K (.ref (A_AlreadyHeld K)) (.type "BaseException") = some true),
  decide (PySem.W.typeIn K (.ref (A_AlreadyHeld K)) = some (.type "type")),
  PySem.W.hasDictIn K (A_AlreadyHeld K),
  decide (PySem.W.nsIn K mainGlobals "TooManyOffers" = some (some (.ref (A_TooManyOffers K)))),
  decide (PySem.W.subIn K (.ref (A_TooManyOffers K)) (.type "BaseException") = some true)]
def hb1 (K : PySem.W.Frag) : List Bool := [decide (PySem.W.typeIn K (.ref (A_TooManyOffers K)) = some (.type "type")),
  PySem.W.hasDictIn K (A_TooManyOffers K),
  decide (PySem.W.nsIn K mainGlobals "TooFewHours" = some (some (.ref (A_TooFewHours K)))),
  decide (PySem.W.subIn K (.ref (A_TooFewHours K)) (.type "BaseException") = some true),
  decide (PySem.W.typeIn K (.ref (A_TooFewHours K)) = some (.type "type")),
  PySem.W.hasDictIn K (A_TooFewHours K),
  decide (PySem.W.nsIn K mainGlobals "TooManyLessons" = some (some (.ref (A_TooManyLessons K)))),
  decide (PySem.W.subIn K (.ref (A_TooManyLessons K)) (.type "BaseException") = some true),
  decide (PySem.W.typeIn K (.ref (A_TooManyLessons K)) = some (.type "type")),
  PySem.W.hasDictIn K (A_TooManyLessons K),
  decide (PySem.W.nsIn K mainGlobals "NoSchedule" = some (some (.ref (A_NoSchedule K)))),
  decide (PySem.W.subIn K (.ref (A_NoSchedule K)) (.type "BaseException") = some true),
  decide (PySem.W.typeIn K (.ref (A_NoSchedule K)) = some (.type "type")),
  PySem.W.hasDictIn K (A_NoSchedule K),
  decide (PySem.W.nsIn K mainGlobals "BadRoster" = some (some (.ref (A_BadRoster K)))),
  decide (PySem.W.subIn K (.ref (A_BadRoster K)) (.type "BaseException") = some true),
  decide (PySem.W.typeIn K (.ref (A_BadRoster K)) = some (.type "type")),
  PySem.W.hasDictIn K (A_BadRoster K),
  decide (PySem.W.nsIn K mainGlobals "BadList" = some (some (.ref (A_BadList K)))),
  decide (PySem.W.subIn K (.ref (A_BadList K)) (.type "BaseException") = some true),
  decide (PySem.W.typeIn K (.ref (A_BadList K)) = some (.type "type")),
  PySem.W.hasDictIn K (A_BadList K),
  decide (PySem.W.nsIn K mainGlobals "TooManyEdits" = some (some (.ref (A_TooManyEdits K)))),
  decide (PySem.W.subIn K (.ref (A_TooManyEdits K)) (.type "BaseException") = some true),
  decide (PySem.W.typeIn K (.ref (A_TooManyEdits K)) = some (.type "type")),
  PySem.W.hasDictIn K (A_TooManyEdits K),
  decide (PySem.W.nsIn K mainGlobals "BatchFailed" = some (some (.ref (A_BatchFailed K)))),
  decide (PySem.W.subIn K (.ref (A_BatchFailed K)) (.type "BaseException") = some true),
  decide (PySem.W.typeIn K (.ref (A_BatchFailed K)) = some (.type "type")),
  PySem.W.hasDictIn K (A_BatchFailed K)]
def hb2 (K : PySem.W.Frag) : List Bool := [decide (PySem.W.nsIn K mainGlobals "BadText" = some (some (.ref (A_BadText K)))),
  decide (PySem.W.subIn K (.ref (A_BadText K)) (.type "BaseException") = some true),
  decide (PySem.W.typeIn K (.ref (A_BadText K)) = some (.type "type")),
  PySem.W.hasDictIn K (A_BadText K),
  decide (PySem.W.nsIn K mainGlobals "NoFreeHour" = some (some (.ref (A_NoFreeHour K)))),
  decide (PySem.W.subIn K (.ref (A_NoFreeHour K)) (.type "BaseException") = some true),
  decide (PySem.W.typeIn K (.ref (A_NoFreeHour K)) = some (.type "type")),
  PySem.W.hasDictIn K (A_NoFreeHour K),
  decide (PySem.W.nsIn K mainGlobals "NothingToUndo" = some (some (.ref (A_NothingToUndo K)))),
  decide (PySem.W.subIn K (.ref (A_NothingToUndo K)) (.type "BaseException") = some true),
  decide (PySem.W.typeIn K (.ref (A_NothingToUndo K)) = some (.type "type")),
  PySem.W.hasDictIn K (A_NothingToUndo K),
  decide (PySem.W.nsIn K mainGlobals "HasCycle" = some (some (.ref (A_HasCycle K)))),
  decide (PySem.W.subIn K (.ref (A_HasCycle K)) (.type "BaseException") = some true),
  decide (PySem.W.typeIn K (.ref (A_HasCycle K)) = some (.type "type")),
  PySem.W.hasDictIn K (A_HasCycle K),
  decide (PySem.W.nsIn K mainGlobals "BadLists" = some (some (.ref (A_BadLists K)))),
  decide (PySem.W.subIn K (.ref (A_BadLists K)) (.type "BaseException") = some true),
  decide (PySem.W.typeIn K (.ref (A_BadLists K)) = some (.type "type")),
  PySem.W.hasDictIn K (A_BadLists K),
  decide (PySem.W.nsIn K mainGlobals "BadBatch" = some (some (.ref (A_BadBatch K)))),
  decide (PySem.W.subIn K (.ref (A_BadBatch K)) (.type "BaseException") = some true),
  decide (PySem.W.typeIn K (.ref (A_BadBatch K)) = some (.type "type")),
  PySem.W.hasDictIn K (A_BadBatch K),
  decide (PySem.W.nsIn K mainGlobals "Busy" = some (some (.ref (A_Busy K)))),
  decide (PySem.W.subIn K (.ref (A_Busy K)) (.type "BaseException") = some true),
  decide (PySem.W.typeIn K (.ref (A_Busy K)) = some (.type "type")),
  PySem.W.hasDictIn K (A_Busy K),
  decide (PySem.W.nsIn K mainGlobals "NoLesson" = some (some (.ref (A_NoLesson K)))),
  decide (PySem.W.subIn K (.ref (A_NoLesson K)) (.type "BaseException") = some true)]
def hb3 (K : PySem.W.Frag) : List Bool := [decide (PySem.W.typeIn K (.ref (A_NoLesson K)) = some (.type "type")),
  PySem.W.hasDictIn K (A_NoLesson K),
  decide (PySem.W.nsIn K mainGlobals "NoIndex" = some (some (.ref (A_NoIndex K)))),
  decide (PySem.W.subIn K (.ref (A_NoIndex K)) (.type "BaseException") = some true),
  decide (PySem.W.typeIn K (.ref (A_NoIndex K)) = some (.type "type")),
  PySem.W.hasDictIn K (A_NoIndex K),
  decide (PySem.W.nsIn K mainGlobals "NoVersion" = some (some (.ref (A_NoVersion K)))),
  decide (PySem.W.subIn K (.ref (A_NoVersion K)) (.type "BaseException") = some true),
  decide (PySem.W.typeIn K (.ref (A_NoVersion K)) = some (.type "type")),
  PySem.W.hasDictIn K (A_NoVersion K),
  decide (PySem.W.nsIn K mainGlobals "NoPerson" = some (some (.ref (A_NoPerson K)))),
  decide (PySem.W.subIn K (.ref (A_NoPerson K)) (.type "BaseException") = some true),
  decide (PySem.W.typeIn K (.ref (A_NoPerson K)) = some (.type "type")),
  PySem.W.hasDictIn K (A_NoPerson K),
  decide (PySem.W.nsIn K mainGlobals "ListError" = some (some (.ref (A_ListError K)))),
  decide (PySem.W.subIn K (.ref (A_ListError K)) (.type "BaseException") = some true),
  decide (PySem.W.typeIn K (.ref (A_ListError K)) = some (.type "type")),
  PySem.W.hasDictIn K (A_ListError K),
  decide (PySem.W.specialIn K (.builtin "object.__class__") "__get__" = some (some (.builtin "getset_descriptor.__get__"))),
  decide (PySem.W.takesIn K (.builtin "object.__class__") = some true),
  DL.oexB "ValueError.__new__" K (A_TooLarge K),
  PySem.HandSPX.refsVE (DL.mroB K (A_TooLarge K)),
  decide (PySem.W.findIn K (.ref (A_TooLarge K)) "__setattr__" = some (some (.builtin "object.__setattr__"))),
  decide (PySem.W.findIn K (.ref (A_TooLarge K)) "__getattribute__" = some (some (.builtin "BaseException.__getattribute__"))),
  decide (PySem.W.findIn K (.ref (A_TooLarge K)) "__getattr__" = some none),
  decide (PySem.W.findIn K (.ref (A_TooLarge K)) "__class__" = some (some (.builtin "object.__class__"))),
  decide (PySem.W.mroIn K (A_TooLarge K) (.type "object") = some true),
  PySem.W.keepIn K (.ref (A_TooLarge K)),
  decide (PySem.W.findIn K (.ref (A_TooLarge K)) "bound" = some none),
  decide (PySem.W.findIn K (.ref (A_TooLarge K)) "__init__" = some (some (.ref (He.ma K (A_TooLarge K) "__init__"))))]
def hb4 (K : PySem.W.Frag) : List Bool := [decide (PySem.W.typeIn K (.ref (He.ma K (A_TooLarge K) "__init__")) = some (.type "function")),
  DL.oexB "ValueError.__new__" K (A_Unplaced K),
  PySem.HandSPX.refsVE (DL.mroB K (A_Unplaced K)),
  decide (PySem.W.findIn K (.ref (A_Unplaced K)) "__setattr__" = some (some (.builtin "object.__setattr__"))),
  decide (PySem.W.findIn K (.ref (A_Unplaced K)) "__getattribute__" = some (some (.builtin "BaseException.__getattribute__"))),
  decide (PySem.W.findIn K (.ref (A_Unplaced K)) "__getattr__" = some none),
  decide (PySem.W.findIn K (.ref (A_Unplaced K)) "__class__" = some (some (.builtin "object.__class__"))),
  decide (PySem.W.mroIn K (A_Unplaced K) (.type "object") = some true),
  PySem.W.keepIn K (.ref (A_Unplaced K)),
  decide (PySem.W.findIn K (.ref (A_Unplaced K)) "lesson" = some none),
  decide (PySem.W.findIn K (.ref (A_Unplaced K)) "__init__" = some (some (.ref (He.ma K (A_Unplaced K) "__init__")))),
  decide (PySem.W.typeIn K (.ref (He.ma K (A_Unplaced K) "__init__")) = some (.type "function")),
  DL.oexB "ValueError.__new__" K (A_ShortList K),
  PySem.HandSPX.refsVE (DL.mroB K (A_ShortList K)),
  decide (PySem.W.findIn K (.ref (A_ShortList K)) "__setattr__" = some (some (.builtin "object.__setattr__"))),
  decide (PySem.W.findIn K (.ref (A_ShortList K)) "__getattribute__" = some (some (.builtin "BaseException.__getattribute__"))),
  decide (PySem.W.findIn K (.ref (A_ShortList K)) "__getattr__" = some none),
  decide (PySem.W.findIn K (.ref (A_ShortList K)) "__class__" = some (some (.builtin "object.__class__"))),
  decide (PySem.W.mroIn K (A_ShortList K) (.type "object") = some true),
  PySem.W.keepIn K (.ref (A_ShortList K)),
  decide (PySem.W.findIn K (.ref (A_ShortList K)) "lesson" = some none),
  decide (PySem.W.findIn K (.ref (A_ShortList K)) "__init__" = some (some (.ref (He.ma K (A_ShortList K) "__init__")))),
  decide (PySem.W.typeIn K (.ref (He.ma K (A_ShortList K) "__init__")) = some (.type "function")),
  DL.oexB "ValueError.__new__" K (A_BadOffer K),
  PySem.HandSPX.refsVE (DL.mroB K (A_BadOffer K)),
  decide (PySem.W.findIn K (.ref (A_BadOffer K)) "__setattr__" = some (some (.builtin "object.__setattr__"))),
  decide (PySem.W.findIn K (.ref (A_BadOffer K)) "__getattribute__" = some (some (.builtin "BaseException.__getattribute__"))),
  decide (PySem.W.findIn K (.ref (A_BadOffer K)) "__getattr__" = some none),
  decide (PySem.W.findIn K (.ref (A_BadOffer K)) "__class__" = some (some (.builtin "object.__class__"))),
  decide (PySem.W.mroIn K (A_BadOffer K) (.type "object") = some true)]
def hb5 (K : PySem.W.Frag) : List Bool := [PySem.W.keepIn K (.ref (A_BadOffer K)),
  decide (PySem.W.findIn K (.ref (A_BadOffer K)) "value" = some none),
  decide (PySem.W.findIn K (.ref (A_BadOffer K)) "__init__" = some (some (.ref (He.ma K (A_BadOffer K) "__init__")))),
  decide (PySem.W.typeIn K (.ref (He.ma K (A_BadOffer K) "__init__")) = some (.type "function")),
  DL.oexB "ValueError.__new__" K (A_AlreadyHeld K),
  PySem.HandSPX.refsVE (DL.mroB K (A_AlreadyHeld K)),
  decide (PySem.W.findIn K (.ref (A_AlreadyHeld K)) "__setattr__" = some (some (.builtin "object.__setattr__"))),
  decide (PySem.W.findIn K (.ref (A_AlreadyHeld K)) "__getattribute__" = some (some (.builtin "BaseException.__getattribute__"))),
  decide (PySem.W.findIn K (.ref (A_AlreadyHeld K)) "__getattr__" = some none),
  decide (PySem.W.findIn K (.ref (A_AlreadyHeld K)) "__class__" = some (some (.builtin "object.__class__"))),
  decide (PySem.W.mroIn K (A_AlreadyHeld K) (.type "object") = some true),
  PySem.W.keepIn K (.ref (A_AlreadyHeld K)),
  decide (PySem.W.findIn K (.ref (A_AlreadyHeld K)) "lesson" = some none),
  decide (PySem.W.findIn K (.ref (A_AlreadyHeld K)) "__init__" = some (some (.ref (He.ma K (A_AlreadyHeld K) "__init__")))),
  decide (PySem.W.typeIn K (.ref (He.ma K (A_AlreadyHeld K) "__init__")) = some (.type "function")),
  DL.oexB "ValueError.__new__" K (A_TooManyOffers K),
  PySem.HandSPX.refsVE (DL.mroB K (A_TooManyOffers K)),
  decide (PySem.W.findIn K (.ref (A_TooManyOffers K)) "__setattr__" = some (some (.builtin "object.__setattr__"))),
  decide (PySem.W.findIn K (.ref (A_TooManyOffers K)) "__getattribute__" = some (some (.builtin "BaseException.__getattribute__"))),
  decide (PySem.W.findIn K (.ref (A_TooManyOffers K)) "__getattr__" = some none),
  decide (PySem.W.findIn K (.ref (A_TooManyOffers K)) "__class__" = some (some (.builtin "object.__class__"))),
  decide (PySem.W.mroIn K (A_TooManyOffers K) (.type "object") = some true),
  PySem.W.keepIn K (.ref (A_TooManyOffers K)),
  decide (PySem.W.findIn K (.ref (A_TooManyOffers K)) "bound" = some none),
  decide (PySem.W.findIn K (.ref (A_TooManyOffers K)) "__init__" = some (some (.ref (He.ma K (A_TooManyOffers K) "__init__")))),
  decide (PySem.W.typeIn K (.ref (He.ma K (A_TooManyOffers K) "__init__")) = some (.type "function")),
  DL.oexB "ValueError.__new__" K (A_TooFewHours K),
  PySem.HandSPX.refsVE (DL.mroB K (A_TooFewHours K)),
  decide (PySem.W.findIn K (.ref (A_TooFewHours K)) "__setattr__" = some (some (.builtin "object.__setattr__"))),
  decide (PySem.W.findIn K (.ref (A_TooFewHours K)) "__getattribute__" = some (some (.builtin "BaseException.__getattribute__")))]
def hb6 (K : PySem.W.Frag) : List Bool := [decide (PySem.W.findIn K (.ref (A_TooFewHours K)) "__getattr__" = some none),
  decide (PySem.W.findIn K (.ref (A_TooFewHours K)) "__class__" = some (some (.builtin "object.__class__"))),
  decide (PySem.W.mroIn K (A_TooFewHours K) (.type "object") = some true),
  PySem.W.keepIn K (.ref (A_TooFewHours K)),
  decide (PySem.W.findIn K (.ref (A_TooFewHours K)) "degree" = some none),
  decide (PySem.W.findIn K (.ref (A_TooFewHours K)) "__init__" = some (some (.ref (He.ma K (A_TooFewHours K) "__init__")))),
  decide (PySem.W.typeIn K (.ref (He.ma K (A_TooFewHours K) "__init__")) = some (.type "function")),
  DL.oexB "ValueError.__new__" K (A_TooManyLessons K),
  PySem.HandSPX.refsVE (DL.mroB K (A_TooManyLessons K)),
  decide (PySem.W.findIn K (.ref (A_TooManyLessons K)) "__setattr__" = some (some (.builtin "object.__setattr__"))),
  decide (PySem.W.findIn K (.ref (A_TooManyLessons K)) "__getattribute__" = some (some (.builtin "BaseException.__getattribute__"))),
  decide (PySem.W.findIn K (.ref (A_TooManyLessons K)) "__getattr__" = some none),
  decide (PySem.W.findIn K (.ref (A_TooManyLessons K)) "__class__" = some (some (.builtin "object.__class__"))),
  decide (PySem.W.mroIn K (A_TooManyLessons K) (.type "object") = some true),
  PySem.W.keepIn K (.ref (A_TooManyLessons K)),
  decide (PySem.W.findIn K (.ref (A_TooManyLessons K)) "bound" = some none),
  decide (PySem.W.findIn K (.ref (A_TooManyLessons K)) "__init__" = some (some (.ref (He.ma K (A_TooManyLessons K) "__init__")))),
  decide (PySem.W.typeIn K (.ref (He.ma K (A_TooManyLessons K) "__init__")) = some (.type "function")),
  DL.oexB "ValueError.__new__" K (A_NoSchedule K),
  PySem.HandSPX.refsVE (DL.mroB K (A_NoSchedule K)),
  decide (PySem.W.findIn K (.ref (A_NoSchedule K)) "__setattr__" = some (some (.builtin "object.__setattr__"))),
  decide (PySem.W.findIn K (.ref (A_NoSchedule K)) "__getattribute__" = some (some (.builtin "BaseException.__getattribute__"))),
  decide (PySem.W.findIn K (.ref (A_NoSchedule K)) "__getattr__" = some none),
  decide (PySem.W.findIn K (.ref (A_NoSchedule K)) "__class__" = some (some (.builtin "object.__class__"))),
  decide (PySem.W.mroIn K (A_NoSchedule K) (.type "object") = some true),
  PySem.W.keepIn K (.ref (A_NoSchedule K)),
  decide (PySem.W.findIn K (.ref (A_NoSchedule K)) "value" = some none),
  decide (PySem.W.findIn K (.ref (A_NoSchedule K)) "__init__" = some (some (.ref (He.ma K (A_NoSchedule K) "__init__")))),
  decide (PySem.W.typeIn K (.ref (He.ma K (A_NoSchedule K) "__init__")) = some (.type "function")),
  DL.oexB "ValueError.__new__" K (A_BadRoster K)]
def hb7 (K : PySem.W.Frag) : List Bool := [PySem.HandSPX.refsVE (DL.mroB K (A_BadRoster K)),
  decide (PySem.W.findIn K (.ref (A_BadRoster K)) "__setattr__" = some (some (.builtin "object.__setattr__"))),
  decide (PySem.W.findIn K (.ref (A_BadRoster K)) "__getattribute__" = some (some (.builtin "BaseException.__getattribute__"))),
  decide (PySem.W.findIn K (.ref (A_BadRoster K)) "__getattr__" = some none),
  decide (PySem.W.findIn K (.ref (A_BadRoster K)) "__class__" = some (some (.builtin "object.__class__"))),
  decide (PySem.W.mroIn K (A_BadRoster K) (.type "object") = some true),
  PySem.W.keepIn K (.ref (A_BadRoster K)),
  decide (PySem.W.findIn K (.ref (A_BadRoster K)) "error" = some none),
  decide (PySem.W.findIn K (.ref (A_BadRoster K)) "__init__" = some (some (.ref (He.ma K (A_BadRoster K) "__init__")))),
  decide (PySem.W.typeIn K (.ref (He.ma K (A_BadRoster K) "__init__")) = some (.type "function")),
  DL.oexB "ValueError.__new__" K (A_BadList K),
  PySem.HandSPX.refsVE (DL.mroB K (A_BadList K)),
  decide (PySem.W.findIn K (.ref (A_BadList K)) "__setattr__" = some (some (.builtin "object.__setattr__"))),
  decide (PySem.W.findIn K (.ref (A_BadList K)) "__getattribute__" = some (some (.builtin "BaseException.__getattribute__"))),
  decide (PySem.W.findIn K (.ref (A_BadList K)) "__getattr__" = some none),
  decide (PySem.W.findIn K (.ref (A_BadList K)) "__class__" = some (some (.builtin "object.__class__"))),
  decide (PySem.W.mroIn K (A_BadList K) (.type "object") = some true),
  PySem.W.keepIn K (.ref (A_BadList K)),
  decide (PySem.W.findIn K (.ref (A_BadList K)) "value" = some none),
  decide (PySem.W.findIn K (.ref (A_BadList K)) "__init__" = some (some (.ref (He.ma K (A_BadList K) "__init__")))),
  decide (PySem.W.typeIn K (.ref (He.ma K (A_BadList K) "__init__")) = some (.type "function")),
  DL.oexB "ValueError.__new__" K (A_TooManyEdits K),
  PySem.HandSPX.refsVE (DL.mroB K (A_TooManyEdits K)),
  decide (PySem.W.findIn K (.ref (A_TooManyEdits K)) "__setattr__" = some (some (.builtin "object.__setattr__"))),
  decide (PySem.W.findIn K (.ref (A_TooManyEdits K)) "__getattribute__" = some (some (.builtin "BaseException.__getattribute__"))),
  decide (PySem.W.findIn K (.ref (A_TooManyEdits K)) "__getattr__" = some none),
  decide (PySem.W.findIn K (.ref (A_TooManyEdits K)) "__class__" = some (some (.builtin "object.__class__"))),
  decide (PySem.W.mroIn K (A_TooManyEdits K) (.type "object") = some true),
  PySem.W.keepIn K (.ref (A_TooManyEdits K)),
  decide (PySem.W.findIn K (.ref (A_TooManyEdits K)) "bound" = some none)]
def hb8 (K : PySem.W.Frag) : List Bool := [decide (PySem.W.findIn K (.ref (A_TooManyEdits K)) "__init__" = some (some (.ref (He.ma K (A_TooManyEdits K) "__init__")))),
  decide (PySem.W.typeIn K (.ref (He.ma K (A_TooManyEdits K) "__init__")) = some (.type "function")),
  DL.oexB "ValueError.__new__" K (A_BatchFailed K),
  PySem.HandSPX.refsVE (DL.mroB K (A_BatchFailed K)),
  decide (PySem.W.findIn K (.ref (A_BatchFailed K)) "__setattr__" = some (some (.builtin "object.__setattr__"))),
  decide (PySem.W.findIn K (.ref (A_BatchFailed K)) "__getattribute__" = some (some (.builtin "BaseException.__getattribute__"))),
  decide (PySem.W.findIn K (.ref (A_BatchFailed K)) "__getattr__" = some none),
  decide (PySem.W.findIn K (.ref (A_BatchFailed K)) "__class__" = some (some (.builtin "object.__class__"))),
  decide (PySem.W.mroIn K (A_BatchFailed K) (.type "object") = some true),
  PySem.W.keepIn K (.ref (A_BatchFailed K)),
  decide (PySem.W.findIn K (.ref (A_BatchFailed K)) "index" = some none),
  decide (PySem.W.findIn K (.ref (A_BatchFailed K)) "__init__" = some (some (.ref (He.ma K (A_BatchFailed K) "__init__")))),
  decide (PySem.W.typeIn K (.ref (He.ma K (A_BatchFailed K) "__init__")) = some (.type "function")),
  DL.oexB "ValueError.__new__" K (A_BadText K),
  PySem.HandSPX.refsVE (DL.mroB K (A_BadText K)),
  decide (PySem.W.findIn K (.ref (A_BadText K)) "__setattr__" = some (some (.builtin "object.__setattr__"))),
  decide (PySem.W.findIn K (.ref (A_BadText K)) "__getattribute__" = some (some (.builtin "BaseException.__getattribute__"))),
  decide (PySem.W.findIn K (.ref (A_BadText K)) "__getattr__" = some none),
  decide (PySem.W.findIn K (.ref (A_BadText K)) "__class__" = some (some (.builtin "object.__class__"))),
  decide (PySem.W.mroIn K (A_BadText K) (.type "object") = some true),
  PySem.W.keepIn K (.ref (A_BadText K)),
  decide (PySem.W.findIn K (.ref (A_BadText K)) "index" = some none),
  decide (PySem.W.findIn K (.ref (A_BadText K)) "__init__" = some (some (.ref (He.ma K (A_BadText K) "__init__")))),
  decide (PySem.W.typeIn K (.ref (He.ma K (A_BadText K) "__init__")) = some (.type "function")),
  DL.oexB "ValueError.__new__" K (A_NoFreeHour K),
  PySem.HandSPX.refsVE (DL.mroB K (A_NoFreeHour K)),
  decide (PySem.W.findIn K (.ref (A_NoFreeHour K)) "__setattr__" = some (some (.builtin "object.__setattr__"))),
  decide (PySem.W.findIn K (.ref (A_NoFreeHour K)) "__getattribute__" = some (some (.builtin "BaseException.__getattribute__"))),
  decide (PySem.W.findIn K (.ref (A_NoFreeHour K)) "__getattr__" = some none),
  decide (PySem.W.findIn K (.ref (A_NoFreeHour K)) "__class__" = some (some (.builtin "object.__class__")))]
def hb9 (K : PySem.W.Frag) : List Bool := [decide (PySem.W.mroIn K (A_NoFreeHour K) (.type "object") = some true),
  PySem.W.keepIn K (.ref (A_NoFreeHour K)),
  decide (PySem.W.findIn K (.ref (A_NoFreeHour K)) "side" = some none),
  decide (PySem.W.findIn K (.ref (A_NoFreeHour K)) "person" = some none),
  decide (PySem.W.findIn K (.ref (A_NoFreeHour K)) "__init__" = some (some (.ref (He.ma K (A_NoFreeHour K) "__init__")))),
  decide (PySem.W.typeIn K (.ref (He.ma K (A_NoFreeHour K) "__init__")) = some (.type "function")),
  PySem.W.excIn K (A_NothingToUndo K) [.type "ValueError", .type "Exception", .type "BaseException", .type "object"] "ValueError.__new__",
  decide (PySem.W.findIn K (.ref (A_NothingToUndo K)) "__getattribute__" = some (some (.builtin "BaseException.__getattribute__"))),
  decide (PySem.W.findIn K (.ref (A_NothingToUndo K)) "__getattr__" = some none),
  decide (PySem.W.findIn K (.ref (A_NothingToUndo K)) "__class__" = some (some (.builtin "object.__class__"))),
  decide (PySem.W.mroIn K (A_NothingToUndo K) (.type "object") = some true),
  PySem.W.keepIn K (.ref (A_NothingToUndo K)),
  PySem.W.excIn K (A_HasCycle K) [.type "ValueError", .type "Exception", .type "BaseException", .type "object"] "ValueError.__new__",
  decide (PySem.W.findIn K (.ref (A_HasCycle K)) "__getattribute__" = some (some (.builtin "BaseException.__getattribute__"))),
  decide (PySem.W.findIn K (.ref (A_HasCycle K)) "__getattr__" = some none),
  decide (PySem.W.findIn K (.ref (A_HasCycle K)) "__class__" = some (some (.builtin "object.__class__"))),
  decide (PySem.W.mroIn K (A_HasCycle K) (.type "object") = some true),
  PySem.W.keepIn K (.ref (A_HasCycle K)),
  PySem.W.excIn K (A_BadLists K) [.type "ValueError", .type "Exception", .type "BaseException", .type "object"] "ValueError.__new__",
  decide (PySem.W.findIn K (.ref (A_BadLists K)) "__getattribute__" = some (some (.builtin "BaseException.__getattribute__"))),
  decide (PySem.W.findIn K (.ref (A_BadLists K)) "__getattr__" = some none),
  decide (PySem.W.findIn K (.ref (A_BadLists K)) "__class__" = some (some (.builtin "object.__class__"))),
  decide (PySem.W.mroIn K (A_BadLists K) (.type "object") = some true),
  PySem.W.keepIn K (.ref (A_BadLists K)),
  PySem.W.excIn K (A_BadBatch K) [.type "ValueError", .type "Exception", .type "BaseException", .type "object"] "ValueError.__new__",
  decide (PySem.W.findIn K (.ref (A_BadBatch K)) "__getattribute__" = some (some (.builtin "BaseException.__getattribute__"))),
  decide (PySem.W.findIn K (.ref (A_BadBatch K)) "__getattr__" = some none),
  decide (PySem.W.findIn K (.ref (A_BadBatch K)) "__class__" = some (some (.builtin "object.__class__"))),
  decide (PySem.W.mroIn K (A_BadBatch K) (.type "object") = some true),
  PySem.W.keepIn K (.ref (A_BadBatch K))]
def hb10 (K : PySem.W.Frag) : List Bool := [PySem.W.excIn K (A_Busy K) [.type "ValueError", .type "Exception", .type "BaseException", .type "object"] "ValueError.__new__",
  decide (PySem.W.findIn K (.ref (A_Busy K)) "__getattribute__" = some (some (.builtin "BaseException.__getattribute__"))),
  decide (PySem.W.findIn K (.ref (A_Busy K)) "__getattr__" = some none),
  decide (PySem.W.findIn K (.ref (A_Busy K)) "__class__" = some (some (.builtin "object.__class__"))),
  decide (PySem.W.mroIn K (A_Busy K) (.type "object") = some true),
  PySem.W.keepIn K (.ref (A_Busy K)),
  DL.oexB "LookupError.__new__" K (A_NoLesson K),
  decide (DL.mroB K (A_NoLesson K) = leTail),
  decide (PySem.W.findIn K (.ref (A_NoLesson K)) "__setattr__" = some (some (.builtin "object.__setattr__"))),
  decide (PySem.W.findIn K (.ref (A_NoLesson K)) "__getattribute__" = some (some (.builtin "BaseException.__getattribute__"))),
  decide (PySem.W.findIn K (.ref (A_NoLesson K)) "__getattr__" = some none),
  decide (PySem.W.findIn K (.ref (A_NoLesson K)) "__class__" = some (some (.builtin "object.__class__"))),
  decide (PySem.W.mroIn K (A_NoLesson K) (.type "object") = some true),
  PySem.W.keepIn K (.ref (A_NoLesson K)),
  decide (PySem.W.findIn K (.ref (A_NoLesson K)) "value" = some none),
  decide (PySem.W.findIn K (.ref (A_NoLesson K)) "__init__" = some (some (.ref (He.ma K (A_NoLesson K) "__init__")))),
  decide (PySem.W.typeIn K (.ref (He.ma K (A_NoLesson K) "__init__")) = some (.type "function")),
  DL.oexB "LookupError.__new__" K (A_NoIndex K),
  decide (DL.mroB K (A_NoIndex K) = leTail),
  decide (PySem.W.findIn K (.ref (A_NoIndex K)) "__setattr__" = some (some (.builtin "object.__setattr__"))),
  decide (PySem.W.findIn K (.ref (A_NoIndex K)) "__getattribute__" = some (some (.builtin "BaseException.__getattribute__"))),
  decide (PySem.W.findIn K (.ref (A_NoIndex K)) "__getattr__" = some none),
  decide (PySem.W.findIn K (.ref (A_NoIndex K)) "__class__" = some (some (.builtin "object.__class__"))),
  decide (PySem.W.mroIn K (A_NoIndex K) (.type "object") = some true),
  PySem.W.keepIn K (.ref (A_NoIndex K)),
  decide (PySem.W.findIn K (.ref (A_NoIndex K)) "value" = some none),
  decide (PySem.W.findIn K (.ref (A_NoIndex K)) "__init__" = some (some (.ref (He.ma K (A_NoIndex K) "__init__")))),
  decide (PySem.W.typeIn K (.ref (He.ma K (A_NoIndex K) "__init__")) = some (.type "function")),
  DL.oexB "LookupError.__new__" K (A_NoVersion K),
  decide (DL.mroB K (A_NoVersion K) = leTail)]
def hb11 (K : PySem.W.Frag) : List Bool := [decide (PySem.W.findIn K (.ref (A_NoVersion K)) "__setattr__" = some (some (.builtin "object.__setattr__"))),
  decide (PySem.W.findIn K (.ref (A_NoVersion K)) "__getattribute__" = some (some (.builtin "BaseException.__getattribute__"))),
  decide (PySem.W.findIn K (.ref (A_NoVersion K)) "__getattr__" = some none),
  decide (PySem.W.findIn K (.ref (A_NoVersion K)) "__class__" = some (some (.builtin "object.__class__"))),
  decide (PySem.W.mroIn K (A_NoVersion K) (.type "object") = some true),
  PySem.W.keepIn K (.ref (A_NoVersion K)),
  decide (PySem.W.findIn K (.ref (A_NoVersion K)) "value" = some none),
  decide (PySem.W.findIn K (.ref (A_NoVersion K)) "__init__" = some (some (.ref (He.ma K (A_NoVersion K) "__init__")))),
  decide (PySem.W.typeIn K (.ref (He.ma K (A_NoVersion K) "__init__")) = some (.type "function")),
  DL.oexB "LookupError.__new__" K (A_NoPerson K),
  decide (DL.mroB K (A_NoPerson K) = leTail),
  decide (PySem.W.findIn K (.ref (A_NoPerson K)) "__setattr__" = some (some (.builtin "object.__setattr__"))),
  decide (PySem.W.findIn K (.ref (A_NoPerson K)) "__getattribute__" = some (some (.builtin "BaseException.__getattribute__"))),
  decide (PySem.W.findIn K (.ref (A_NoPerson K)) "__getattr__" = some none),
  decide (PySem.W.findIn K (.ref (A_NoPerson K)) "__class__" = some (some (.builtin "object.__class__"))),
  decide (PySem.W.mroIn K (A_NoPerson K) (.type "object") = some true),
  PySem.W.keepIn K (.ref (A_NoPerson K)),
  decide (PySem.W.findIn K (.ref (A_NoPerson K)) "side" = some none),
  decide (PySem.W.findIn K (.ref (A_NoPerson K)) "value" = some none),
  decide (PySem.W.findIn K (.ref (A_NoPerson K)) "__init__" = some (some (.ref (He.ma K (A_NoPerson K) "__init__")))),
  decide (PySem.W.typeIn K (.ref (He.ma K (A_NoPerson K) "__init__")) = some (.type "function")),
  isvB K [("TooLarge", true), ("Unplaced", false), ("ShortList", false), ("BadOffer", false), ("AlreadyHeld", false), ("TooManyOffers", false), ("TooFewHours", false), ("TooManyLessons", false), ("NoSchedule", false), ("BadRoster", false), ("BadList", false), ("TooManyEdits", false), ("BatchFailed", false), ("BadText", false), ("NoFreeHour", false), ("NothingToUndo", false), ("HasCycle", false), ("BadLists", false), ("BadBatch", false), ("Busy", false), ("NoLesson", false), ("NoIndex", false), ("NoVersion", false), ("NoPerson", false)] (.ref (A_TooLarge K)),
  isvB K [("TooLarge", false), ("Unplaced", true), ("ShortList", false), ("BadOffer", false), ("AlreadyHeld", false), ("TooManyOffers", false), ("TooFewHours", false), ("TooManyLessons", false), ("NoSchedule", false), ("BadRoster", false), ("BadList", false), ("TooManyEdits", false), ("BatchFailed", false), ("BadText", false), ("NoFreeHour", false), ("NothingToUndo", false), ("HasCycle", false), ("BadLists", false), ("BadBatch", false), ("Busy", false), ("NoLesson", false), ("NoIndex", false), ("NoVersion", false), ("NoPerson", false)] (.ref (A_Unplaced K)),
  isvB K [("TooLarge", false), ("Unplaced", false), ("ShortList", true), ("BadOffer", false), ("AlreadyHeld", false), ("TooManyOffers", false), ("TooFewHours", false), ("TooManyLessons", false), ("NoSchedule", false), ("BadRoster", false), ("BadList", false), ("TooManyEdits", false), ("BatchFailed", false), ("BadText", false), ("NoFreeHour", false), ("NothingToUndo", false), ("HasCycle", false), ("BadLists", false), ("BadBatch", false), ("Busy", false), ("NoLesson", false), ("NoIndex", false), ("NoVersion", false), ("NoPerson", false)] (.ref (A_ShortList K)),
  isvB K [("TooLarge", false), ("Unplaced", false), ("ShortList", false), ("BadOffer", true), ("AlreadyHeld", false), ("TooManyOffers", false), ("TooFewHours", false), ("TooManyLessons", false), ("NoSchedule", false), ("BadRoster", false), ("BadList", false), ("TooManyEdits", false), ("BatchFailed", false), ("BadText", false), ("NoFreeHour", false), ("NothingToUndo", false), ("HasCycle", false), ("BadLists", false), ("BadBatch", false), ("Busy", false), ("NoLesson", false), ("NoIndex", false), ("NoVersion", false), ("NoPerson", false)] (.ref (A_BadOffer K)),
  isvB K [("TooLarge", false), ("Unplaced", false), ("ShortList", false), ("BadOffer", false), ("AlreadyHeld", true), ("TooManyOffers", false), ("TooFewHours", false), ("TooManyLessons", false), ("NoSchedule", false), ("BadRoster", false), ("BadList", false), ("TooManyEdits", false), ("BatchFailed", false), ("BadText", false), ("NoFreeHour", false), ("NothingToUndo", false), ("HasCycle", false), ("BadLists", false), ("BadBatch", false), ("Busy", false), ("NoLesson", false), ("NoIndex", false), ("NoVersion", false), ("NoPerson", false)] (.ref (A_AlreadyHeld K)),
  isvB K [("TooLarge", false), ("Unplaced", false), ("ShortList", false), ("BadOffer", false), ("AlreadyHeld", false), ("TooManyOffers", true), ("TooFewHours", false), ("TooManyLessons", false), ("NoSchedule", false), ("BadRoster", false), ("BadList", false), ("TooManyEdits", false), ("BatchFailed", false), ("BadText", false), ("NoFreeHour", false), ("NothingToUndo", false), ("HasCycle", false), ("BadLists", false), ("BadBatch", false), ("Busy", false), ("NoLesson", false), ("NoIndex", false), ("NoVersion", false), ("NoPerson", false)] (.ref (A_TooManyOffers K)),
  isvB K [("TooLarge", false), ("Unplaced", false), ("ShortList", false), ("BadOffer", false), ("AlreadyHeld", false), ("TooManyOffers", false), ("TooFewHours", true), ("TooManyLessons", false), ("NoSchedule", false), ("BadRoster", false), ("BadList", false), ("TooManyEdits", false), ("BatchFailed", false), ("BadText", false), ("NoFreeHour", false), ("NothingToUndo", false), ("HasCycle", false), ("BadLists", false), ("BadBatch", false), ("Busy", false), ("NoLesson", false), ("NoIndex", false), ("NoVersion", false), ("NoPerson", false)] (.ref (A_TooFewHours K)),
  isvB K [("TooLarge", false), ("Unplaced", false), ("ShortList", false), ("BadOffer", false), ("AlreadyHeld", false), ("TooManyOffers", false), ("TooFewHours", false), ("TooManyLessons", true), ("NoSchedule", false), ("BadRoster", false), ("BadList", false), ("TooManyEdits", false), ("BatchFailed", false), ("BadText", false), ("NoFreeHour", false), ("NothingToUndo", false), ("HasCycle", false), ("BadLists", false), ("BadBatch", false), ("Busy", false), ("NoLesson", false), ("NoIndex", false), ("NoVersion", false), ("NoPerson", false)] (.ref (A_TooManyLessons K)),
  isvB K [("TooLarge", false), ("Unplaced", false), ("ShortList", false), ("BadOffer", false), ("AlreadyHeld", false), ("TooManyOffers", false), ("TooFewHours", false), ("TooManyLessons", false), ("NoSchedule", true), ("BadRoster", false), ("BadList", false), ("TooManyEdits", false), ("BatchFailed", false), ("BadText", false), ("NoFreeHour", false), ("NothingToUndo", false), ("HasCycle", false), ("BadLists", false), ("BadBatch", false), ("Busy", false), ("NoLesson", false), ("NoIndex", false), ("NoVersion", false), ("NoPerson", false)] (.ref (A_NoSchedule K))]
def hb12 (K : PySem.W.Frag) : List Bool := [isvB K [("TooLarge", false), ("Unplaced", false), ("ShortList", false), ("BadOffer", false), ("AlreadyHeld", false), ("TooManyOffers", false), ("TooFewHours", false), ("TooManyLessons", false), ("NoSchedule", false), ("BadRoster", true), ("BadList", false), ("TooManyEdits", false), ("BatchFailed", false), ("BadText", false), ("NoFreeHour", false), ("NothingToUndo", false), ("HasCycle", false), ("BadLists", false), ("BadBatch", false), ("Busy", false), ("NoLesson", false), ("NoIndex", false), ("NoVersion", false), ("NoPerson", false)] (.ref (A_BadRoster K)),
  isvB K [("TooLarge", false), ("Unplaced", false), ("ShortList", false), ("BadOffer", false), ("AlreadyHeld", false), ("TooManyOffers", false), ("TooFewHours", false), ("TooManyLessons", false), ("NoSchedule", false), ("BadRoster", false), ("BadList", true), ("TooManyEdits", false), ("BatchFailed", false), ("BadText", false), ("NoFreeHour", false), ("NothingToUndo", false), ("HasCycle", false), ("BadLists", false), ("BadBatch", false), ("Busy", false), ("NoLesson", false), ("NoIndex", false), ("NoVersion", false), ("NoPerson", false)] (.ref (A_BadList K)),
  isvB K [("TooLarge", false), ("Unplaced", false), ("ShortList", false), ("BadOffer", false), ("AlreadyHeld", false), ("TooManyOffers", false), ("TooFewHours", false), ("TooManyLessons", false), ("NoSchedule", false), ("BadRoster", false), ("BadList", false), ("TooManyEdits", true), ("BatchFailed", false), ("BadText", false), ("NoFreeHour", false), ("NothingToUndo", false), ("HasCycle", false), ("BadLists", false), ("BadBatch", false), ("Busy", false), ("NoLesson", false), ("NoIndex", false), ("NoVersion", false), ("NoPerson", false)] (.ref (A_TooManyEdits K)),
  isvB K [("TooLarge", false), ("Unplaced", false), ("ShortList", false), ("BadOffer", false), ("AlreadyHeld", false), ("TooManyOffers", false), ("TooFewHours", false), ("TooManyLessons", false), ("NoSchedule", false), ("BadRoster", false), ("BadList", false), ("TooManyEdits", false), ("BatchFailed", true), ("BadText", false), ("NoFreeHour", false), ("NothingToUndo", false), ("HasCycle", false), ("BadLists", false), ("BadBatch", false), ("Busy", false), ("NoLesson", false), ("NoIndex", false), ("NoVersion", false), ("NoPerson", false)] (.ref (A_BatchFailed K)),
  isvB K [("TooLarge", false), ("Unplaced", false), ("ShortList", false), ("BadOffer", false), ("AlreadyHeld", false), ("TooManyOffers", false), ("TooFewHours", false), ("TooManyLessons", false), ("NoSchedule", false), ("BadRoster", false), ("BadList", false), ("TooManyEdits", false), ("BatchFailed", false), ("BadText", true), ("NoFreeHour", false), ("NothingToUndo", false), ("HasCycle", false), ("BadLists", false), ("BadBatch", false), ("Busy", false), ("NoLesson", false), ("NoIndex", false), ("NoVersion", false), ("NoPerson", false)] (.ref (A_BadText K)),
  isvB K [("TooLarge", false), ("Unplaced", false), ("ShortList", false), ("BadOffer", false), ("AlreadyHeld", false), ("TooManyOffers", false), ("TooFewHours", false), ("TooManyLessons", false), ("NoSchedule", false), ("BadRoster", false), ("BadList", false), ("TooManyEdits", false), ("BatchFailed", false), ("BadText", false), ("NoFreeHour", true), ("NothingToUndo", false), ("HasCycle", false), ("BadLists", false), ("BadBatch", false), ("Busy", false), ("NoLesson", false), ("NoIndex", false), ("NoVersion", false), ("NoPerson", false)] (.ref (A_NoFreeHour K)),
  isvB K [("TooLarge", false), ("Unplaced", false), ("ShortList", false), ("BadOffer", false), ("AlreadyHeld", false), ("TooManyOffers", false), ("TooFewHours", false), ("TooManyLessons", false), ("NoSchedule", false), ("BadRoster", false), ("BadList", false), ("TooManyEdits", false), ("BatchFailed", false), ("BadText", false), ("NoFreeHour", false), ("NothingToUndo", true), ("HasCycle", false), ("BadLists", false), ("BadBatch", false), ("Busy", false), ("NoLesson", false), ("NoIndex", false), ("NoVersion", false), ("NoPerson", false)] (.ref (A_NothingToUndo K)),
  isvB K [("TooLarge", false), ("Unplaced", false), ("ShortList", false), ("BadOffer", false), ("AlreadyHeld", false), ("TooManyOffers", false), ("TooFewHours", false), ("TooManyLessons", false), ("NoSchedule", false), ("BadRoster", false), ("BadList", false), ("TooManyEdits", false), ("BatchFailed", false), ("BadText", false), ("NoFreeHour", false), ("NothingToUndo", false), ("HasCycle", true), ("BadLists", false), ("BadBatch", false), ("Busy", false), ("NoLesson", false), ("NoIndex", false), ("NoVersion", false), ("NoPerson", false)] (.ref (A_HasCycle K)),
  isvB K [("TooLarge", false), ("Unplaced", false), ("ShortList", false), ("BadOffer", false), ("AlreadyHeld", false), ("TooManyOffers", false), ("TooFewHours", false), ("TooManyLessons", false), ("NoSchedule", false), ("BadRoster", false), ("BadList", false), ("TooManyEdits", false), ("BatchFailed", false), ("BadText", false), ("NoFreeHour", false), ("NothingToUndo", false), ("HasCycle", false), ("BadLists", true), ("BadBatch", false), ("Busy", false), ("NoLesson", false), ("NoIndex", false), ("NoVersion", false), ("NoPerson", false)] (.ref (A_BadLists K)),
  isvB K [("TooLarge", false), ("Unplaced", false), ("ShortList", false), ("BadOffer", false), ("AlreadyHeld", false), ("TooManyOffers", false), ("TooFewHours", false), ("TooManyLessons", false), ("NoSchedule", false), ("BadRoster", false), ("BadList", false), ("TooManyEdits", false), ("BatchFailed", false), ("BadText", false), ("NoFreeHour", false), ("NothingToUndo", false), ("HasCycle", false), ("BadLists", false), ("BadBatch", true), ("Busy", false), ("NoLesson", false), ("NoIndex", false), ("NoVersion", false), ("NoPerson", false)] (.ref (A_BadBatch K)),
  isvB K [("TooLarge", false), ("Unplaced", false), ("ShortList", false), ("BadOffer", false), ("AlreadyHeld", false), ("TooManyOffers", false), ("TooFewHours", false), ("TooManyLessons", false), ("NoSchedule", false), ("BadRoster", false), ("BadList", false), ("TooManyEdits", false), ("BatchFailed", false), ("BadText", false), ("NoFreeHour", false), ("NothingToUndo", false), ("HasCycle", false), ("BadLists", false), ("BadBatch", false), ("Busy", true), ("NoLesson", false), ("NoIndex", false), ("NoVersion", false), ("NoPerson", false)] (.ref (A_Busy K)),
  isvB K [("TooLarge", false), ("Unplaced", false), ("ShortList", false), ("BadOffer", false), ("AlreadyHeld", false), ("TooManyOffers", false), ("TooFewHours", false), ("TooManyLessons", false), ("NoSchedule", false), ("BadRoster", false), ("BadList", false), ("TooManyEdits", false), ("BatchFailed", false), ("BadText", false), ("NoFreeHour", false), ("NothingToUndo", false), ("HasCycle", false), ("BadLists", false), ("BadBatch", false), ("Busy", false), ("NoLesson", true), ("NoIndex", false), ("NoVersion", false), ("NoPerson", false)] (.ref (A_NoLesson K)),
  isvB K [("TooLarge", false), ("Unplaced", false), ("ShortList", false), ("BadOffer", false), ("AlreadyHeld", false), ("TooManyOffers", false), ("TooFewHours", false), ("TooManyLessons", false), ("NoSchedule", false), ("BadRoster", false), ("BadList", false), ("TooManyEdits", false), ("BatchFailed", false), ("BadText", false), ("NoFreeHour", false), ("NothingToUndo", false), ("HasCycle", false), ("BadLists", false), ("BadBatch", false), ("Busy", false), ("NoLesson", false), ("NoIndex", true), ("NoVersion", false), ("NoPerson", false)] (.ref (A_NoIndex K)),
  isvB K [("TooLarge", false), ("Unplaced", false), ("ShortList", false), ("BadOffer", false), ("AlreadyHeld", false), ("TooManyOffers", false), ("TooFewHours", false), ("TooManyLessons", false), ("NoSchedule", false), ("BadRoster", false), ("BadList", false), ("TooManyEdits", false), ("BatchFailed", false), ("BadText", false), ("NoFreeHour", false), ("NothingToUndo", false), ("HasCycle", false), ("BadLists", false), ("BadBatch", false), ("Busy", false), ("NoLesson", false), ("NoIndex", false), ("NoVersion", true), ("NoPerson", false)] (.ref (A_NoVersion K)),
  isvB K [("TooLarge", false), ("Unplaced", false), ("ShortList", false), ("BadOffer", false), ("AlreadyHeld", false), ("TooManyOffers", false), ("TooFewHours", false), ("TooManyLessons", false), ("NoSchedule", false), ("BadRoster", false), ("BadList", false), ("TooManyEdits", false), ("BatchFailed", false), ("BadText", false), ("NoFreeHour", false), ("NothingToUndo", false), ("HasCycle", false), ("BadLists", false), ("BadBatch", false), ("Busy", false), ("NoLesson", false), ("NoIndex", false), ("NoVersion", false), ("NoPerson", true)] (.ref (A_NoPerson K)),
  isvB K [("TooLarge", true), ("Unplaced", true), ("ShortList", true), ("BadOffer", true), ("AlreadyHeld", true), ("TooManyOffers", true), ("TooFewHours", true), ("TooManyLessons", true), ("NoSchedule", true), ("BadRoster", true), ("BadList", true), ("TooManyEdits", true), ("BatchFailed", true), ("BadText", true), ("NoFreeHour", true), ("NothingToUndo", true), ("HasCycle", true), ("BadLists", true), ("BadBatch", true), ("Busy", true), ("NoLesson", false), ("NoIndex", false), ("NoVersion", false), ("NoPerson", false)] (.ref (A_ListError K)),
  isvB K [("TooLarge", true), ("Unplaced", true), ("ShortList", true), ("BadOffer", true), ("AlreadyHeld", true), ("TooManyOffers", true), ("TooFewHours", true), ("TooManyLessons", true), ("NoSchedule", true), ("BadRoster", true), ("BadList", true), ("TooManyEdits", true), ("BatchFailed", true), ("BadText", true), ("NoFreeHour", true), ("NothingToUndo", true), ("HasCycle", true), ("BadLists", true), ("BadBatch", true), ("Busy", true), ("NoLesson", false), ("NoIndex", false), ("NoVersion", false), ("NoPerson", false)] (.type "ValueError"),
  isvB K [("TooLarge", false), ("Unplaced", false), ("ShortList", false), ("BadOffer", false), ("AlreadyHeld", false), ("TooManyOffers", false), ("TooFewHours", false), ("TooManyLessons", false), ("NoSchedule", false), ("BadRoster", false), ("BadList", false), ("TooManyEdits", false), ("BatchFailed", false), ("BadText", false), ("NoFreeHour", false), ("NothingToUndo", false), ("HasCycle", false), ("BadLists", false), ("BadBatch", false), ("Busy", false), ("NoLesson", true), ("NoIndex", true), ("NoVersion", true), ("NoPerson", true)] (.type "LookupError"),
  excvB K ["TooLarge", "Unplaced", "ShortList", "BadOffer", "AlreadyHeld", "TooManyOffers", "TooFewHours", "TooManyLessons", "NoSchedule", "BadRoster", "BadList", "TooManyEdits", "BatchFailed", "BadText", "NoFreeHour", "NothingToUndo", "HasCycle", "BadLists", "BadBatch", "Busy", "NoLesson", "NoIndex", "NoVersion", "NoPerson"],
  decide (PySem.W.nsIn K mainGlobals "abs" = some none),
  decide (PySem.W.nsIn K mainGlobals "len" = some none),
  decide (PySem.W.nsIn K mainGlobals "isinstance" = some none),
  decide (PySem.W.nsIn K mainGlobals "repr" = some none),
  decide (PySem.W.nsIn K mainGlobals "range" = some none),
  decide (PySem.W.nsIn K mainGlobals "ValueError" = some none),
  decide (PySem.W.nsIn K mainGlobals "LookupError" = some none),
  (He.Fa.int "MAX_PEOPLE" 8).ok K,
  (He.Fa.int "MAX_LESSONS" 16).ok K,
  (He.Fa.int "LAST_HOUR" 1000000).ok K,
  (He.Fa.int "MAX_LIST" 20).ok K]
def hb13 (K : PySem.W.Frag) : List Bool := [(He.Fa.int "MAX_OFFERED" 12).ok K,
  (He.Fa.int "MAX_OFFERS" 100).ok K,
  (He.Fa.int "MAX_PRODUCT" 20000).ok K,
  (He.Fa.int "MAX_EDITS" 60).ok K,
  (He.Fa.int "BATCH" 20).ok K]
def hex_0 (K : PySem.W.Frag) : Bool := ((hb0 K).all id && ((hb1 K).all id && ((hb2 K).all id && ((hb3 K).all id && ((hb4 K).all id && ((hb5 K).all id && ((hb6 K).all id && true)))))))
def hex_1 (K : PySem.W.Frag) : Bool := ((hb7 K).all id && ((hb8 K).all id && ((hb9 K).all id && ((hb10 K).all id && ((hb11 K).all id && ((hb12 K).all id && ((hb13 K).all id && true)))))))
def hex (K : PySem.W.Frag) : Bool := (hex_0 K && (hex_1 K && true))
def hdp_0 : List He.DefD := hd0
def hdefs : List He.DefD := hdp_0
def hn0 : List PySem.Str := ["MAX_PEOPLE", "MAX_LESSONS", "LAST_HOUR", "MAX_LIST", "MAX_OFFERED", "MAX_OFFERS", "MAX_PRODUCT", "MAX_EDITS", "BATCH", "_law_state", "_law_draw", "_law_odd", "_law_same", "_law_flags", "_law_errors", "_law_fields", "ListError", "TooLarge", "Unplaced", "ShortList", "BadOffer", "AlreadyHeld", "TooManyOffers", "NothingToUndo", "TooFewHours", "TooManyLessons", "NoFreeHour", "HasCycle", "NoSchedule", "BadRoster"]
def hn1 : List PySem.Str := ["BadLists", "BadList", "TooManyEdits", "BadBatch", "BatchFailed", "Busy", "BadText", "NoLesson", "NoPerson", "NoIndex", "NoVersion"]
def hnames : List PySem.Str := hn0 ++ hn1
abbrev hR : PySem.W.OpenRow := PySem.W.OpenLaw.row PySem.Challenge.rw_listedges_k08_errors_and_limits
abbrev hk : PySem.W.Hook := hookY 2500 hdefs [] [] hex
def hob (s : PySem.W.SharedT) : He.AlX := obsY 2500 hdefs [] [] hex (HandSHeadRun.getT s)
theorem hob_eq (s : PySem.W.SharedT) : hob s = hk.obs s.abs := obsY_at s
set_option maxHeartbeats 0 in
theorem hrun_l (w : World) : Sees hR 100000 w (fun s => HandSHeadRun.looksF hR.prog (PySem.W.boot_heap w.params) s.abs) true := by
  intro os
  kernel_rfl
set_option maxHeartbeats 0 in
theorem hrun_s (w : World) : Sees hR 100000 w (fun s => HandSHeadRun.seenQ (PySem.W.view hR.prog [43]) hnames (PySem.importedModules hR.prog.main.body) (fun s => PySem.W.xlAt (PySem.W.view hR.prog [43]) [] s && PySem.W.recOk hR.toRowW.records s) s.abs) (PySem.W.openGood (PySem.W.view hR.prog [43]) hnames) := by
  intro os
  kernel_rfl
set_option maxHeartbeats 0 in
theorem hrun_d0 (w : World) : Sees hR 100000 w (defY 2500 hdp_0) (He.valD hdp_0) := by
  intro os
  kernel_rfl
set_option maxHeartbeats 0 in
theorem hrun_b0 (w : World) : Sees hR 100000 w (boolY 2500 hex_0) true := by
  intro os
  kernel_rfl
set_option maxHeartbeats 0 in
theorem hrun_b1 (w : World) : Sees hR 100000 w (boolY 2500 hex_1) true := by
  intro os
  kernel_rfl
theorem hrun_d (w : World) : Sees hR 100000 w (defY 2500 hdefs) (He.valD hdefs) := hrun_d0 w
theorem hrun_b (w : World) : Sees hR 100000 w (boolY 2500 hex) true := ((hrun_b0 w).tt ((hrun_b1 w).tt ((hrun_b1 w).to (g := fun _ => true) (b := true) (fun _ _ => rfl))))
theorem hrun (w : World) : HandSHeadRun.RunEq hR (PySem.W.view hR.prog [43]) hk hob 100000 hnames w := Sees.run ((hrun_l w).and (hrun_s w)) (Sees.all (hrun_d w) (hrun_b w))
end LK
namespace LK
open PySem L2 PySem.Spec DL
def rtv_TooLarge : List (Str × Bool) := [("TooLarge", true), ("Unplaced", false), ("ShortList", false), ("BadOffer", false), ("AlreadyHeld", false), ("TooManyOffers", false), ("TooFewHours", false), ("TooManyLessons", false), ("NoSchedule", false), ("BadRoster", false), ("BadList", false), ("TooManyEdits", false), ("BatchFailed", false), ("BadText", false), ("NoFreeHour", false), ("NothingToUndo", false), ("HasCycle", false), ("BadLists", false), ("BadBatch", false), ("Busy", false), ("NoLesson", false), ("NoIndex", false), ("NoVersion", false), ("NoPerson", false)]
def rtv_Unplaced : List (Str × Bool) := [("TooLarge", false), ("Unplaced", true), ("ShortList", false), ("BadOffer", false), ("AlreadyHeld", false), ("TooManyOffers", false), ("TooFewHours", false), ("TooManyLessons", false), ("NoSchedule", false), ("BadRoster", false), ("BadList", false), ("TooManyEdits", false), ("BatchFailed", false), ("BadText", false), ("NoFreeHour", false), ("NothingToUndo", false), ("HasCycle", false), ("BadLists", false), ("BadBatch", false), ("Busy", false), ("NoLesson", false), ("NoIndex", false), ("NoVersion", false), ("NoPerson", false)]
def rtv_ShortList : List (Str × Bool) := [("TooLarge", false), ("Unplaced", false), ("ShortList", true), ("BadOffer", false), ("AlreadyHeld", false), ("TooManyOffers", false), ("TooFewHours", false), ("TooManyLessons", false), ("NoSchedule", false), ("BadRoster", false), ("BadList", false), ("TooManyEdits", false), ("BatchFailed", false), ("BadText", false), ("NoFreeHour", false), ("NothingToUndo", false), ("HasCycle", false), ("BadLists", false), ("BadBatch", false), ("Busy", false), ("NoLesson", false), ("NoIndex", false), ("NoVersion", false), ("NoPerson", false)]
def rtv_BadOffer : List (Str × Bool) := [("TooLarge", false), ("Unplaced", false), ("ShortList", false), ("BadOffer", true), ("AlreadyHeld", false), ("TooManyOffers", false), ("TooFewHours", false), ("TooManyLessons", false), ("NoSchedule", false), ("BadRoster", false), ("BadList", false), ("TooManyEdits", false), ("BatchFailed", false), ("BadText", false), ("NoFreeHour", false), ("NothingToUndo", false), ("HasCycle", false), ("BadLists", false), ("BadBatch", false), ("Busy", false), ("NoLesson", false), ("NoIndex", false), ("NoVersion", false), ("NoPerson", false)]
def rtv_AlreadyHeld : List (Str × Bool) := [("TooLarge", false), ("Unplaced", false), ("ShortList", false), ("BadOffer", false), ("AlreadyHeld", true), ("TooManyOffers", false), ("TooFewHours", false), ("TooManyLessons", false), ("NoSchedule", false), ("BadRoster", false), ("BadList", false), ("TooManyEdits", false), ("BatchFailed", false), ("BadText", false), ("NoFreeHour", false), ("NothingToUndo", false), ("HasCycle", false), ("BadLists", false), ("BadBatch", false), ("Busy", false), ("NoLesson", false), ("NoIndex", false), ("NoVersion", false), ("NoPerson", false)]
def rtv_TooManyOffers : List (Str × Bool) := [("TooLarge", false), ("Unplaced", false), ("ShortList", false), ("BadOffer", false), ("AlreadyHeld", false), ("TooManyOffers", true), ("TooFewHours", false), ("TooManyLessons", false), ("NoSchedule", false), ("BadRoster", false), ("BadList", false), ("TooManyEdits", false), ("BatchFailed", false), ("BadText", false), ("NoFreeHour", false), ("NothingToUndo", false), ("HasCycle", false), ("BadLists", false), ("BadBatch", false), ("Busy", false), ("NoLesson", false), ("NoIndex", false), ("NoVersion", false), ("NoPerson", false)]
def rtv_TooFewHours : List (Str × Bool) := [("TooLarge", false), ("Unplaced", false), ("ShortList", false), ("BadOffer", false), ("AlreadyHeld", false), ("TooManyOffers", false), ("TooFewHours", true), ("TooManyLessons", false), ("NoSchedule", false), ("BadRoster", false), ("BadList", false), ("TooManyEdits", false), ("BatchFailed", false), ("BadText", false), ("NoFreeHour", false), ("NothingToUndo", false), ("HasCycle", false), ("BadLists", false), ("BadBatch", false), ("Busy", false), ("NoLesson", false), ("NoIndex", false), ("NoVersion", false), ("NoPerson", false)]
def rtv_TooManyLessons : List (Str × Bool) := [("TooLarge", false), ("Unplaced", false), ("ShortList", false), ("BadOffer", false), ("AlreadyHeld", false), ("TooManyOffers", false), ("TooFewHours", false), ("TooManyLessons", true), ("NoSchedule", false), ("BadRoster", false), ("BadList", false), ("TooManyEdits", false), ("BatchFailed", false), ("BadText", false), ("NoFreeHour", false), ("NothingToUndo", false), ("HasCycle", false), ("BadLists", false), ("BadBatch", false), ("Busy", false), ("NoLesson", false), ("NoIndex", false), ("NoVersion", false), ("NoPerson", false)]
def rtv_NoSchedule : List (Str × Bool) := [("TooLarge", false), ("Unplaced", false), ("ShortList", false), ("BadOffer", false), ("AlreadyHeld", false), ("TooManyOffers", false), ("TooFewHours", false), ("TooManyLessons", false), ("NoSchedule", true), ("BadRoster", false), ("BadList", false), ("TooManyEdits", false), ("BatchFailed", false), ("BadText", false), ("NoFreeHour", false), ("NothingToUndo", false), ("HasCycle", false), ("BadLists", false), ("BadBatch", false), ("Busy", false), ("NoLesson", false), ("NoIndex", false), ("NoVersion", false), ("NoPerson", false)]
def rtv_BadRoster : List (Str × Bool) := [("TooLarge", false), ("Unplaced", false), ("ShortList", false), ("BadOffer", false), ("AlreadyHeld", false), ("TooManyOffers", false), ("TooFewHours", false), ("TooManyLessons", false), ("NoSchedule", false), ("BadRoster", true), ("BadList", false), ("TooManyEdits", false), ("BatchFailed", false), ("BadText", false), ("NoFreeHour", false), ("NothingToUndo", false), ("HasCycle", false), ("BadLists", false), ("BadBatch", false), ("Busy", false), ("NoLesson", false), ("NoIndex", false), ("NoVersion", false), ("NoPerson", false)]
def rtv_BadList : List (Str × Bool) := [("TooLarge", false), ("Unplaced", false), ("ShortList", false), ("BadOffer", false), ("AlreadyHeld", false), ("TooManyOffers", false), ("TooFewHours", false), ("TooManyLessons", false), ("NoSchedule", false), ("BadRoster", false), ("BadList", true), ("TooManyEdits", false), ("BatchFailed", false), ("BadText", false), ("NoFreeHour", false), ("NothingToUndo", false), ("HasCycle", false), ("BadLists", false), ("BadBatch", false), ("Busy", false), ("NoLesson", false), ("NoIndex", false), ("NoVersion", false), ("NoPerson", false)]
def rtv_TooManyEdits : List (Str × Bool) := [("TooLarge", false), ("Unplaced", false), ("ShortList", false), ("BadOffer", false), ("AlreadyHeld", false), ("TooManyOffers", false), ("TooFewHours", false), ("TooManyLessons", false), ("NoSchedule", false), ("BadRoster", false), ("BadList", false), ("TooManyEdits", true), ("BatchFailed", false), ("BadText", false), ("NoFreeHour", false), ("NothingToUndo", false), ("HasCycle", false), ("BadLists", false), ("BadBatch", false), ("Busy", false), ("NoLesson", false), ("NoIndex", false), ("NoVersion", false), ("NoPerson", false)]
def rtv_BatchFailed : List (Str × Bool) := [("TooLarge", false), ("Unplaced", false), ("ShortList", false), ("BadOffer", false), ("AlreadyHeld", false), ("TooManyOffers", false), ("TooFewHours", false), ("TooManyLessons", false), ("NoSchedule", false), ("BadRoster", false), ("BadList", false), ("TooManyEdits", false), ("BatchFailed", true), ("BadText", false), ("NoFreeHour", false), ("NothingToUndo", false), ("HasCycle", false), ("BadLists", false), ("BadBatch", false), ("Busy", false), ("NoLesson", false), ("NoIndex", false), ("NoVersion", false), ("NoPerson", false)]
def rtv_BadText : List (Str × Bool) := [("TooLarge", false), ("Unplaced", false), ("ShortList", false), ("BadOffer", false), ("AlreadyHeld", false), ("TooManyOffers", false), ("TooFewHours", false), ("TooManyLessons", false), ("NoSchedule", false), ("BadRoster", false), ("BadList", false), ("TooManyEdits", false), ("BatchFailed", false), ("BadText", true), ("NoFreeHour", false), ("NothingToUndo", false), ("HasCycle", false), ("BadLists", false), ("BadBatch", false), ("Busy", false), ("NoLesson", false), ("NoIndex", false), ("NoVersion", false), ("NoPerson", false)]
def rtv_NoFreeHour : List (Str × Bool) := [("TooLarge", false), ("Unplaced", false), ("ShortList", false), ("BadOffer", false), ("AlreadyHeld", false), ("TooManyOffers", false), ("TooFewHours", false), ("TooManyLessons", false), ("NoSchedule", false), ("BadRoster", false), ("BadList", false), ("TooManyEdits", false), ("BatchFailed", false), ("BadText", false), ("NoFreeHour", true), ("NothingToUndo", false), ("HasCycle", false), ("BadLists", false), ("BadBatch", false), ("Busy", false), ("NoLesson", false), ("NoIndex", false), ("NoVersion", false), ("NoPerson", false)]
def rtv_NothingToUndo : List (Str × Bool) := [("TooLarge", false), ("Unplaced", false), ("ShortList", false), ("BadOffer", false), ("AlreadyHeld", false), ("TooManyOffers", false), ("TooFewHours", false), ("TooManyLessons", false), ("NoSchedule", false), ("BadRoster", false), ("BadList", false), ("TooManyEdits", false), ("BatchFailed", false), ("BadText", false), ("NoFreeHour", false), ("NothingToUndo", true), ("HasCycle", false), ("BadLists", false), ("BadBatch", false), ("Busy", false), ("NoLesson", false), ("NoIndex", false), ("NoVersion", false), ("NoPerson", false)]
def rtv_HasCycle : List (Str × Bool) := [("TooLarge", false), ("Unplaced", false), ("ShortList", false), ("BadOffer", false), ("AlreadyHeld", false), ("TooManyOffers", false), ("TooFewHours", false), ("TooManyLessons", false), ("NoSchedule", false), ("BadRoster", false), ("BadList", false), ("TooManyEdits", false), ("BatchFailed", false), ("BadText", false), ("NoFreeHour", false), ("NothingToUndo", false), ("HasCycle", true), ("BadLists", false), ("BadBatch", false), ("Busy", false), ("NoLesson", false), ("NoIndex", false), ("NoVersion", false), ("NoPerson", false)]
def rtv_BadLists : List (Str × Bool) := [("TooLarge", false), ("Unplaced", false), ("ShortList", false), ("BadOffer", false), ("AlreadyHeld", false), ("TooManyOffers", false), ("TooFewHours", false), ("TooManyLessons", false), ("NoSchedule", false), ("BadRoster", false), ("BadList", false), ("TooManyEdits", false), ("BatchFailed", false), ("BadText", false), ("NoFreeHour", false), ("NothingToUndo", false), ("HasCycle", false), ("BadLists", true), ("BadBatch", false), ("Busy", false), ("NoLesson", false), ("NoIndex", false), ("NoVersion", false), ("NoPerson", false)]
def rtv_BadBatch : List (Str × Bool) := [("TooLarge", false), ("Unplaced", false), ("ShortList", false), ("BadOffer", false), ("AlreadyHeld", false), ("TooManyOffers", false), ("TooFewHours", false), ("TooManyLessons", false), ("NoSchedule", false), ("BadRoster", false), ("BadList", false), ("TooManyEdits", false), ("BatchFailed", false), ("BadText", false), ("NoFreeHour", false), ("NothingToUndo", false), ("HasCycle", false), ("BadLists", false), ("BadBatch", true), ("Busy", false), ("NoLesson", false), ("NoIndex", false), ("NoVersion", false), ("NoPerson", false)]
def rtv_Busy : List (Str × Bool) := [("TooLarge", false), ("Unplaced", false), ("ShortList", false), ("BadOffer", false), ("AlreadyHeld", false), ("TooManyOffers", false), ("TooFewHours", false), ("TooManyLessons", false), ("NoSchedule", false), ("BadRoster", false), ("BadList", false), ("TooManyEdits", false), ("BatchFailed", false), ("BadText", false), ("NoFreeHour", false), ("NothingToUndo", false), ("HasCycle", false), ("BadLists", false), ("BadBatch", false), ("Busy", true), ("NoLesson", false), ("NoIndex", false), ("NoVersion", false), ("NoPerson", false)]
def rtv_NoLesson : List (Str × Bool) := [("TooLarge", false), ("Unplaced", false), ("ShortList", false), ("BadOffer", false), ("AlreadyHeld", false), ("TooManyOffers", false), ("TooFewHours", false), ("TooManyLessons", false), ("NoSchedule", false), ("BadRoster", false), ("BadList", false), ("TooManyEdits", false), ("BatchFailed", false), ("BadText", false), ("NoFreeHour", false), ("NothingToUndo", false), ("HasCycle", false), ("BadLists", false), ("BadBatch", false), ("Busy", false), ("NoLesson", true), ("NoIndex", false), ("NoVersion", false), ("NoPerson", false)]
def rtv_NoIndex : List (Str × Bool) := [("TooLarge", false), ("Unplaced", false), ("ShortList", false), ("BadOffer", false), ("AlreadyHeld", false), ("TooManyOffers", false), ("TooFewHours", false), ("TooManyLessons", false), ("NoSchedule", false), ("BadRoster", false), ("BadList", false), ("TooManyEdits", false), ("BatchFailed", false), ("BadText", false), ("NoFreeHour", false), ("NothingToUndo", false), ("HasCycle", false), ("BadLists", false), ("BadBatch", false), ("Busy", false), ("NoLesson", false), ("NoIndex", true), ("NoVersion", false), ("NoPerson", false)]
def rtv_NoVersion : List (Str × Bool) := [("TooLarge", false), ("Unplaced", false), ("ShortList", false), ("BadOffer", false), ("AlreadyHeld", false), ("TooManyOffers", false), ("TooFewHours", false), ("TooManyLessons", false), ("NoSchedule", false), ("BadRoster", false), ("BadList", false), ("TooManyEdits", false), ("BatchFailed", false), ("BadText", false), ("NoFreeHour", false), ("NothingToUndo", false), ("HasCycle", false), ("BadLists", false), ("BadBatch", false), ("Busy", false), ("NoLesson", false), ("NoIndex", false), ("NoVersion", true), ("NoPerson", false)]
def rtv_NoPerson : List (Str × Bool) := [("TooLarge", false), ("Unplaced", false), ("ShortList", false), ("BadOffer", false), ("AlreadyHeld", false), ("TooManyOffers", false), ("TooFewHours", false), ("TooManyLessons", false), ("NoSchedule", false), ("BadRoster", false), ("BadList", false), ("TooManyEdits", false), ("BatchFailed", false), ("BadText", false), ("NoFreeHour", false), ("NothingToUndo", false), ("HasCycle", false), ("BadLists", false), ("BadBatch", false), ("Busy", false), ("NoLesson", false), ("NoIndex", false), ("NoVersion", false), ("NoPerson", true)]
def rtv_ListError : List (Str × Bool) := [("TooLarge", true), ("Unplaced", true), ("ShortList", true), ("BadOffer", true), ("AlreadyHeld", true), ("TooManyOffers", true), ("TooFewHours", true), ("TooManyLessons", true), ("NoSchedule", true), ("BadRoster", true), ("BadList", true), ("TooManyEdits", true), ("BatchFailed", true), ("BadText", true), ("NoFreeHour", true), ("NothingToUndo", true), ("HasCycle", true), ("BadLists", true), ("BadBatch", true), ("Busy", true), ("NoLesson", false), ("NoIndex", false), ("NoVersion", false), ("NoPerson", false)]
def rtv_ValueError : List (Str × Bool) := [("TooLarge", true), ("Unplaced", true), ("ShortList", true), ("BadOffer", true), ("AlreadyHeld", true), ("TooManyOffers", true), ("TooFewHours", true), ("TooManyLessons", true), ("NoSchedule", true), ("BadRoster", true), ("BadList", true), ("TooManyEdits", true), ("BatchFailed", true), ("BadText", true), ("NoFreeHour", true), ("NothingToUndo", true), ("HasCycle", true), ("BadLists", true), ("BadBatch", true), ("Busy", true), ("NoLesson", false), ("NoIndex", false), ("NoVersion", false), ("NoPerson", false)]
def rtv_LookupError : List (Str × Bool) := [("TooLarge", false), ("Unplaced", false), ("ShortList", false), ("BadOffer", false), ("AlreadyHeld", false), ("TooManyOffers", false), ("TooFewHours", false), ("TooManyLessons", false), ("NoSchedule", false), ("BadRoster", false), ("BadList", false), ("TooManyEdits", false), ("BatchFailed", false), ("BadText", false), ("NoFreeHour", false), ("NothingToUndo", false), ("HasCycle", false), ("BadLists", false), ("BadBatch", false), ("Busy", false), ("NoLesson", true), ("NoIndex", true), ("NoVersion", true), ("NoPerson", true)]
def E__law_state_1 : Ef := (e1 gAbs (eVar 2))
def T__law_state_1 : Bf := (bT (e2 gGe (eVar 2) (e2 gPow (eC (.int 10)) (eC (.int 18)))))
def E__law_state_2 : Ef := (eVar 2)
def S__law_state : Sf := (sSeq (sAsg 1 (eLc (iSeq (eVar 0)) [2] (gNm 2) bYes E__law_state_1))
  (sRet (eLst (lCons (eLc (iSeq (eVar 1)) [2] (gNm 2) T__law_state_1 E__law_state_2) (lCons (e2 gAddL (eVar 1) (eLst (lCons (e2 gAdd (e1 gLen (eVar 1)) (eC (.int 7))) lNil))) (lCons (eC (.int 0)) lNil))))))
def F__law_state : DFn := runF S__law_state [.q] 2
def B__law_draw_1 : Sf := (sPost [2] [1, 2, 3, 4]
  (sSeq (sAsg 2 (eItm (gSub1 (qVar 0) (qC (.int 0))) (qC (.int 0))))
  (sSeq (sIf (bT (e2 gGt (eVar 2) (eC (.int 0))))
    (sSeq (sSet (gSub1 (qVar 0) (qC (.int 0))) (pSub1 (qVar 0) (qC (.int 0)) (pVar 0)) (qC (.int 0)) (e2 gFdiv (eVar 2) (eVar 1)))
  (sRet (e2 gMod (eVar 2) (eVar 1))))
    sNil)
  (sDrop (ePopAt (gSub1 (qVar 0) (qC (.int 0))) (pSub1 (qVar 0) (qC (.int 0)) (pVar 0)) (qC (.int 0)))))))
def W__law_draw_1 : Bf := (bQT (q2 gNe (q2 gIx (qVar 0) (qC (.int 0))) (qC (.list []))))
def S__law_draw : Sf := (sSeq (sPre [2] (sWh fuel W__law_draw_1
    B__law_draw_1))
  (sSeq (sSet (qVar 0) (pVar 0) (qC (.int 2)) (e2 gAdd (eQ (q2 gIx (qVar 0) (qC (.int 2)))) (eC (.int 1))))
  (sSeq (sAsg 3 (e2 gMod (eItm (gSub1 (qVar 0) (qC (.int 1))) (q2 gMod (q2 gIx (qVar 0) (qC (.int 2))) (q1 gLen (q2 gIx (qVar 0) (qC (.int 1)))))) (eC (.int 2147483629))))
  (sSeq (sAsg 4 (e2 gAdd (e2 gMul (eVar 3) (e2 gAdd (eC (.int 69621)) (e2 gMul (eC (.int 2)) (eQ (q2 gIx (qVar 0) (qC (.int 2))))))) (eC (.int 30011))))
  (sSeq (sAsg 4 (e2 gMod (e2 gAdd (eVar 4) (e2 gMul (e2 gMul (eC (.int 48271)) (eQ (q2 gIx (qVar 0) (qC (.int 2))))) (eQ (q2 gIx (qVar 0) (qC (.int 2)))))) (eC (.int 2147483587))))
  (sRet (e2 gMod (e2 gFdiv (e2 gMod (e2 gMul (eVar 4) (eVar 4)) (eC (.int 2147483563))) (eC (.int 16))) (eVar 1))))))))
def F__law_draw : DFn := runF S__law_draw [(.r [(.l .s), (.l .s), .s]), .s] 3
def S__law_odd : Sf := (sSeq (sAsg 1 (eLst (lCons (eC .none) (lCons (eC (.bool true)) (lCons (eC (.bool false)) (lCons (e1 gNeg (eC (.int 1))) (lCons (eC (.int 0)) (lCons (eC (.int 1)) (lCons (eC (.int 2)) (lCons (eC (.int 8)) (lCons (e2 gPow (eC (.int 10)) (eC (.int 6))) (lCons (e2 gAdd (e2 gPow (eC (.int 10)) (eC (.int 6))) (eC (.int 1))) (lCons (e2 gPow (eC (.int 10)) (eC (.int 29))) (lCons (eC (.str "")) (lCons (eC (.str "0")) (lCons (eC (.str "none")) (lCons (eTup lNil) (lCons (eLst lNil) (lCons (eC (.dict [])) (lCons (eTup (lCons (eC (.int 0)) lNil)) (lCons (eLst (lCons (eC (.int 0)) lNil)) lNil)))))))))))))))))))))
  (sRet (e2 gIx (e2 gAdd (eVar 1) (eLst (lCons (eTup (lCons (eC (.int 0)) (lCons (eC (.int 0)) lNil))) (lCons (eTup (lCons (eC (.int 0)) (lCons (eC (.int 1)) lNil))) (lCons (eTup (lCons (eTup (lCons (eC (.int 0)) (lCons (eC (.int 0)) lNil))) lNil)) (lCons (eTup (lCons (eC (.bool true)) lNil)) (lCons (eC (.dict [(.str "a", .int 1)])) lNil))))))) (eCallL F__law_draw 0 0 (lCons eLend (lCons (eC (.int 24)) lNil))))))
def F__law_odd : DFn := runF S__law_odd [(.r [(.l .s), (.l .s), .s])] 1
def S__law_errors : Sf := (sSeq (sAsg 2 (eLst (lCons (e1 (gRz "TooLarge") (eTup (lCons (eVar 0) lNil))) (lCons (e1 (gRz "Unplaced") (eTup (lCons (eVar 0) lNil))) (lCons (e1 (gRz "ShortList") (eTup (lCons (eVar 0) lNil))) (lCons (e1 (gRz "BadOffer") (eTup (lCons (eVar 0) lNil))) (lCons (e1 (gRz "AlreadyHeld") (eTup (lCons (eVar 0) lNil))) lNil)))))))
  (sSeq (sAsg 2 (e2 gAddL (eVar 2) (eLst (lCons (e1 (gRz "TooManyOffers") (eTup (lCons (eVar 0) lNil))) (lCons (e1 (gRz "TooFewHours") (eTup (lCons (eVar 0) lNil))) (lCons (e1 (gRz "TooManyLessons") (eTup (lCons (eVar 0) lNil))) (lCons (e1 (gRz "NoSchedule") (eTup (lCons (eVar 0) lNil))) lNil)))))))
  (sSeq (sAsg 2 (e2 gAddL (eVar 2) (eLst (lCons (e1 (gRz "BadRoster") (eTup (lCons (eVar 0) lNil))) (lCons (e1 (gRz "BadList") (eTup (lCons (eVar 0) lNil))) (lCons (e1 (gRz "TooManyEdits") (eTup (lCons (eVar 0) lNil))) (lCons (e1 (gRz "BatchFailed") (eTup (lCons (eVar 0) lNil))) (lCons (e1 (gRz "BadText") (eTup (lCons (eVar 0) lNil))) lNil))))))))
  (sSeq (sAsg 2 (e2 gAddL (eVar 2) (eLst (lCons (e1 (gRz "NoFreeHour") (eTup (lCons (eVar 0) (lCons (eVar 1) lNil)))) (lCons (eC (.tuple [.str "NothingToUndo"])) (lCons (eC (.tuple [.str "HasCycle"])) (lCons (eC (.tuple [.str "BadLists"])) (lCons (eC (.tuple [.str "BadBatch"])) (lCons (eC (.tuple [.str "Busy"])) lNil)))))))))
  (sRet (e2 gAddL (eVar 2) (eLst (lCons (e1 (gRz "NoLesson") (eTup (lCons (eVar 0) lNil))) (lCons (e1 (gRz "NoIndex") (eTup (lCons (eVar 0) lNil))) (lCons (e1 (gRz "NoVersion") (eTup (lCons (eVar 0) lNil))) (lCons (e1 (gRz "NoPerson") (eTup (lCons (eVar 0) (lCons (eVar 1) lNil)))) lNil)))))))))))
def F__law_errors : DFn := runF S__law_errors [.s, .s] 1
def S__law_flags : Sf := (sSeq (sAsg 1 (eLst (lCons (e1 (gIsE rtv_TooLarge) (eVar 0)) (lCons (e1 (gIsE rtv_Unplaced) (eVar 0)) (lCons (e1 (gIsE rtv_ShortList) (eVar 0)) (lCons (e1 (gIsE rtv_BadOffer) (eVar 0)) lNil))))))
  (sSeq (sAsg 1 (e2 gAdd (eVar 1) (eLst (lCons (e1 (gIsE rtv_AlreadyHeld) (eVar 0)) (lCons (e1 (gIsE rtv_TooManyOffers) (eVar 0)) (lCons (e1 (gIsE rtv_TooFewHours) (eVar 0)) lNil))))))
  (sSeq (sAsg 1 (e2 gAdd (eVar 1) (eLst (lCons (e1 (gIsE rtv_TooManyLessons) (eVar 0)) (lCons (e1 (gIsE rtv_NoSchedule) (eVar 0)) (lCons (e1 (gIsE rtv_BadRoster) (eVar 0)) lNil))))))
  (sSeq (sAsg 1 (e2 gAdd (eVar 1) (eLst (lCons (e1 (gIsE rtv_BadList) (eVar 0)) (lCons (e1 (gIsE rtv_TooManyEdits) (eVar 0)) (lCons (e1 (gIsE rtv_BatchFailed) (eVar 0)) lNil))))))
  (sSeq (sAsg 1 (e2 gAdd (eVar 1) (eLst (lCons (e1 (gIsE rtv_BadText) (eVar 0)) (lCons (e1 (gIsE rtv_NoFreeHour) (eVar 0)) (lCons (e1 (gIsE rtv_NothingToUndo) (eVar 0)) lNil))))))
  (sSeq (sAsg 1 (e2 gAdd (eVar 1) (eLst (lCons (e1 (gIsE rtv_HasCycle) (eVar 0)) (lCons (e1 (gIsE rtv_BadLists) (eVar 0)) (lCons (e1 (gIsE rtv_BadBatch) (eVar 0)) (lCons (e1 (gIsE rtv_Busy) (eVar 0)) lNil)))))))
  (sSeq (sAsg 1 (e2 gAdd (eVar 1) (eLst (lCons (e1 (gIsE rtv_NoLesson) (eVar 0)) (lCons (e1 (gIsE rtv_NoIndex) (eVar 0)) (lCons (e1 (gIsE rtv_NoVersion) (eVar 0)) lNil))))))
  (sRet (e2 gAdd (eVar 1) (eLst (lCons (e1 (gIsE rtv_NoPerson) (eVar 0)) lNil)))))))))))
def F__law_flags : DFn := runF S__law_flags [(.l .s)] 1
def S__law_fields : Sf := (sSeq (sAsg 2 (eLst (lCons (e1 (gFldV ["bound"] "bound") (eTup (lCons (eVar 0) lNil))) (lCons (e1 (gFldV ["lesson"] "lesson") (eTup (lCons (eVar 0) lNil))) (lCons (e1 (gFldV ["lesson"] "lesson") (eTup (lCons (eVar 0) lNil))) (lCons (e1 (gFldV ["value"] "value") (eTup (lCons (eVar 0) lNil))) lNil))))))
  (sSeq (sAsg 2 (e2 gAdd (eVar 2) (eLst (lCons (e1 (gFldV ["lesson"] "lesson") (eTup (lCons (eVar 0) lNil))) (lCons (e1 (gFldV ["bound"] "bound") (eTup (lCons (eVar 0) lNil))) (lCons (e1 (gFldV ["degree"] "degree") (eTup (lCons (eVar 0) lNil))) lNil))))))
  (sSeq (sAsg 2 (e2 gAddL (eVar 2) (eLst (lCons (e1 (gFldV ["bound"] "bound") (eTup (lCons (eVar 0) lNil))) (lCons (e1 (gFldV ["value"] "value") (eTup (lCons (eVar 0) lNil))) (lCons (e1 (gFldV ["error"] "error") (eTup (lCons (eVar 0) lNil))) lNil))))))
  (sSeq (sDrop (eApp 2 (e1 (gFldV ["value"] "value") (eTup (lCons (eVar 0) lNil)))))
  (sSeq (sAsg 2 (e2 gAdd (eVar 2) (eLst (lCons (e1 (gFldV ["bound"] "bound") (eTup (lCons (eVar 0) lNil))) (lCons (e1 (gFldV ["index"] "index") (eTup (lCons (eVar 0) lNil))) (lCons (e1 (gFldV ["index"] "index") (eTup (lCons (eVar 0) lNil))) lNil))))))
  (sSeq (sAsg 2 (e2 gAddL (eVar 2) (eLst (lCons (e1 (gFldV ["side", "person"] "side") (eTup (lCons (eVar 0) (lCons (eVar 1) lNil)))) (lCons (e1 (gFldV ["side", "value"] "side") (eTup (lCons (eVar 0) (lCons (eVar 1) lNil)))) (lCons (e1 (gFldV ["value"] "value") (eTup (lCons (eVar 0) lNil))) lNil))))))
  (sRet (e2 gAdd (eVar 2) (eLst (lCons (e1 (gFldV ["value"] "value") (eTup (lCons (eVar 0) lNil))) (lCons (e1 (gFldV ["value"] "value") (eTup (lCons (eVar 0) lNil))) lNil)))))))))))
def F__law_fields : DFn := runF S__law_fields [.s, .s] 1
def S__law_same : Sf := (sRet (e2 gEq (e1 gRepr (eVar 0)) (e1 gRepr (eVar 1))))
def F__law_same : DFn := runF S__law_same [.s, .s] 0
def E_law_1 : Ef := (e2 gEq (eVar 10) (eVar 6))
def B_law_1 : Sf := (sPost [6, 7] [0, 1, 2, 3, 4, 5, 6, 7, 8, 9, 10]
  (sSeq (sAsg 7 (eLst (lCons (e1 (gIsE rtv_ListError) (eItmG 5 (eVar 6))) (lCons (e1 (gIsE rtv_ValueError) (eItmG 5 (eVar 6))) lNil))))
  (sSeq (sDrop (eApp 7 (e1 (gIsE rtv_LookupError) (eItmG 5 (eVar 6)))))
  (sIf (bOr (bT (e2 gNe (eCall F__law_flags (lCons (eItmG 5 (eVar 6)) lNil)) (eLc (iR1 (eC (.int 24))) [10] (gNm 10) bYes E_law_1))) (bT (e2 gNe (eVar 7) (eLst (lCons (e2 gLt (eVar 6) (eC (.int 20))) (lCons (e2 gLt (eVar 6) (eC (.int 20))) (lCons (e2 gGe (eVar 6) (eC (.int 20))) lNil)))))))
    (sRet (eC (.bool false)))
    sNil))))
def T_law_1 : Bf := (bNot (bOf (eCall F__law_same (lCons (eVar 9) (lCons (eVar 3) lNil)))))
def E_law_2 : Ef := (eVar 9)
def B_law_2 : Sf := (sPost [2, 3, 4, 5, 6, 7] [0, 1, 2, 3, 4, 5, 6, 7, 8, 9, 10]
  (sSeq (sTg (eTup (lCons (eCallL F__law_odd 0 1 (lCons eLend lNil)) (lCons (eCallL F__law_odd 0 1 (lCons eLend lNil)) lNil))) (gTp 2 (gsCons (gNm 3) (gsCons (gNm 4) gsNil))))
  (sSeq (sAsg 5 (eCall F__law_errors (lCons (eVar 3) (lCons (eVar 4) lNil))))
  (sSeq (sFor (iFg [6, 7] (iR1 (eC (.int 24)))) (gNm 6)
    B_law_1)
  (sSeq (sIf (bT (e2 gNe (eLc (iSeq (eCall F__law_fields (lCons (eVar 3) (lCons (eVar 4) lNil)))) [9] (gNm 9) T_law_1 E_law_2) (eLst lNil)))
    (sRet (eC (.bool false)))
    sNil)
  (sIf (bNot (bOf (eCall F__law_same (lCons (eLst (lCons (e1 (gFldV ["side", "person"] "person") (eTup (lCons (eVar 3) (lCons (eVar 4) lNil)))) (lCons (e1 (gFldV ["side", "value"] "value") (eTup (lCons (eVar 3) (lCons (eVar 4) lNil)))) lNil))) (lCons (eLst (lCons (eVar 4) (lCons (eVar 4) lNil))) lNil)))))
    (sRet (eC (.bool false)))
    sNil))))))
def S_law : Sf := (sSeq (sAsg 1 (eCallL F__law_state 0 0 (lCons eLend lNil)))
  (sSeq (sFor (iFg [2, 3, 4, 5, 6, 7] (iR1 (eC (.int 4)))) (gNm 2)
    B_law_2)
  (sSeq (sAsg 8 (eLst (lCons (eC (.int 8)) (lCons (eC (.int 16)) (lCons (eC (.int 1000000)) (lCons (eC (.int 20)) (lCons (eC (.int 12)) (lCons (eC (.int 100)) (lCons (eC (.int 20000)) lNil)))))))))
  (sRet (eCall F__law_same (lCons (e2 gAdd (eVar 8) (eLst (lCons (eC (.int 60)) (lCons (eC (.int 20)) lNil)))) (lCons (eLst (lCons (eC (.int 8)) (lCons (eC (.int 16)) (lCons (e2 gPow (eC (.int 10)) (eC (.int 6))) (lCons (eC (.int 20)) (lCons (eC (.int 12)) (lCons (eC (.int 100)) (lCons (eC (.int 20000)) (lCons (eC (.int 60)) (lCons (eC (.int 20)) lNil)))))))))) lNil)))))))
def F_law : DFn := runF S_law [.q] 10
end LK
namespace LK
open PySem L2 PySem.Spec DL
def C__law_state_1 (d : PyData) : Option (PyData) :=
(gAbs d).bind fun v2 =>
some v2
theorem C__law_state_1_eq (script cells cell : PyData) (xs : List PyData) : lcL [2] (gNm 2) bYes E__law_state_1 xs [script, cells, cell] = (mapS xs (C__law_state_1)).bind fun r => some (r, [script, cells, cell]) :=
  lc_map (vs := [2]) (gf := (gNm 2)) (ef := E__law_state_1) (C__law_state_1) (fun d => by simp -implicitDefEqProofs [E__law_state_1, C__law_state_1, ite_bind', ifB_bind, thenS_bind, Option.bind_assoc]) xs
def C__law_state_2 (d : PyData) : Option (Option PyData) :=
(gPow (.int 10) (.int 18)).bind fun v5 =>
(gGe d v5).bind fun v6 =>
(asB v6).bind fun v7 =>
if v7 = true then (some (some d)) else (some none)
theorem C__law_state_2_eq (script cells cell : PyData) (xs : List PyData) : lcL [2] (gNm 2) T__law_state_1 E__law_state_2 xs [script, cells, cell] = (filS xs (C__law_state_2)).bind fun r => some (r, [script, cells, cell]) :=
  lc_fil (vs := [2]) (gf := (gNm 2)) (tf := T__law_state_1) (ef := E__law_state_2) (C__law_state_2) (fun d => by simp -implicitDefEqProofs [T__law_state_1, E__law_state_2, C__law_state_2, ite_bind', ifB_bind, thenS_bind, Option.bind_assoc]) xs
def f__law_state (script : PyData) : Option PyData :=
(seqD script).bind fun v1 =>
(mapS v1 (C__law_state_1)).bind fun v3 =>
(seqD (.list v3)).bind fun v4 =>
(filS v4 (C__law_state_2)).bind fun v8 =>
(gLen (.list v3)).bind fun v9 =>
(gAdd v9 (.int 7)).bind fun v10 =>
(gAddL (.list v3) (.list [v10])).bind fun v11 =>
some (.list [(.list v8), v11, (.int 0)])
theorem f__law_state_eq (script : PyData) : F__law_state [script] = (f__law_state script).bind fun r => some (r, [script]) := by
  simp -implicitDefEqProofs [F__law_state, S__law_state, f__law_state, C__law_state_1_eq, C__law_state_2_eq, ite_bind', ifB_bind, thenS_bind, Option.bind_assoc]
def WL__law_draw_1 (s : PyData) : Option Bool :=
(gIx s (.int 0)).bind fun v11 =>
(gNe v11 (.list [])).bind fun v12 =>
(asB v12).bind fun v13 =>
some v13
def L__law_draw_1 (limit : PyData) (s : PyData) : Option (Out × PyData) :=
(itemD s (.int 0)).bind fun v1 =>
(itemD v1 (.int 0)).bind fun v2 =>
(gGt v2 (.int 0)).bind fun v3 =>
(asB v3).bind fun v4 =>
if v4 = true then ((gFdiv v2 limit).bind fun v5 =>
(itemD s (.int 0)).bind fun v6 =>
(gSet v6 (.int 0) v5).bind fun v7 =>
(gMod v2 limit).bind fun v8 =>
some (.rt v8, (setD s (.int 0) v7))) else ((itemD s (.int 0)).bind fun v9 =>
(gPopAt v9 (.int 0)).bind fun v10 =>
some (.nx, (setD s (.int 0) v10.2)))
theorem L__law_draw_1_eq (state_here limit cell mixed : PyData) (n : Nat) : whL W__law_draw_1 B__law_draw_1 n [state_here, limit, .none, cell, mixed] = (whR n (WL__law_draw_1) (L__law_draw_1 limit) state_here).bind fun r => thenS r (fun s' => some (.nx, [s', limit, .none, cell, mixed])) (fun d s' => some (.rt d, [s', .none, .none, .none, .none])) :=
  wh_ret (cf := W__law_draw_1) (sf := B__law_draw_1) (jr := [1, 2, 3, 4]) (fun s : PyData => [s, limit, .none, cell, mixed]) (WL__law_draw_1) (L__law_draw_1 limit) (fun s => by simp -implicitDefEqProofs [W__law_draw_1, WL__law_draw_1, ite_bind', ifB_bind, thenS_bind, Option.bind_assoc]) (fun s => by simp -implicitDefEqProofs [B__law_draw_1, L__law_draw_1, ite_bind', ifB_bind, thenS_bind, Option.bind_assoc]) n state_here
def f__law_draw (state_here limit : PyData) : Option (PyData × PyData) :=
(whR fuel (WL__law_draw_1) (L__law_draw_1 limit) state_here).bind fun v14 =>
thenS v14 (fun s15 =>
(gIx s15 (.int 2)).bind fun v16 =>
(grd (scD v16)).bind fun _ =>
(gAdd v16 (.int 1)).bind fun v17 =>
(gSet s15 (.int 2) v17).bind fun v18 =>
(itemD v18 (.int 1)).bind fun v19 =>
(gIx v18 (.int 2)).bind fun v20 =>
(gIx v18 (.int 1)).bind fun v21 =>
(gLen v21).bind fun v22 =>
(gMod v20 v22).bind fun v23 =>
(itemD v19 v23).bind fun v24 =>
(gMod v24 (.int 2147483629)).bind fun v25 =>
(gIx v18 (.int 2)).bind fun v26 =>
(grd (scD v26)).bind fun _ =>
(gMul (.int 2) v26).bind fun v27 =>
(gAdd (.int 69621) v27).bind fun v28 =>
(gMul v25 v28).bind fun v29 =>
(gAdd v29 (.int 30011)).bind fun v30 =>
(gIx v18 (.int 2)).bind fun v31 =>
(grd (scD v31)).bind fun _ =>
(gMul (.int 48271) v31).bind fun v32 =>
(gIx v18 (.int 2)).bind fun v33 =>
(grd (scD v33)).bind fun _ =>
(gMul v32 v33).bind fun v34 =>
(gAdd v30 v34).bind fun v35 =>
(gMod v35 (.int 2147483587)).bind fun v36 =>
(gMul v36 v36).bind fun v37 =>
(gMod v37 (.int 2147483563)).bind fun v38 =>
(gFdiv v38 (.int 16)).bind fun v39 =>
(gMod v39 limit).bind fun v40 =>
some (v40, v18)) (fun d42 s41 => some (d42, s41))
theorem f__law_draw_eq (state_here limit : PyData) : F__law_draw [state_here, limit] = (f__law_draw state_here limit).bind fun r => some (r.1, [r.2, limit]) := by
  simp -implicitDefEqProofs [F__law_draw, S__law_draw, f__law_draw, L__law_draw_1_eq, ite_bind', ifB_bind, thenS_bind, Option.bind_assoc]
def f__law_odd (state_here : PyData) : Option (PyData × PyData) :=
(gNeg (.int 1)).bind fun v1 =>
(gPow (.int 10) (.int 6)).bind fun v2 =>
(gPow (.int 10) (.int 6)).bind fun v3 =>
(gAdd v3 (.int 1)).bind fun v4 =>
(gPow (.int 10) (.int 29)).bind fun v5 =>
(gAdd (.list [.none, (.bool true), (.bool false), v1, (.int 0), (.int 1), (.int 2), (.int 8), v2, v4, v5, (.str ""), (.str "0"), (.str "none"), (.tuple []), (.list []), (.dict []), (.tuple [(.int 0)]), (.list [(.int 0)])]) (.list [(.tuple [(.int 0), (.int 0)]), (.tuple [(.int 0), (.int 1)]), (.tuple [(.tuple [(.int 0), (.int 0)])]), (.tuple [(.bool true)]), (.dict [(.str "a", .int 1)])])).bind fun v6 =>
(f__law_draw state_here (.int 24)).bind fun v7 =>
(gIx v6 v7.1).bind fun v8 =>
some (v8, v7.2)
theorem f__law_odd_eq (state_here : PyData) : F__law_odd [state_here] = (f__law_odd state_here).bind fun r => some (r.1, [r.2]) := by
  simp -implicitDefEqProofs [F__law_odd, S__law_odd, f__law_odd, f__law_draw_eq, ite_bind', ifB_bind, thenS_bind, Option.bind_assoc]
def f__law_errors (value other : PyData) : Option PyData :=
((gRz "TooLarge") (.tuple [value])).bind fun v1 =>
((gRz "Unplaced") (.tuple [value])).bind fun v2 =>
((gRz "ShortList") (.tuple [value])).bind fun v3 =>
((gRz "BadOffer") (.tuple [value])).bind fun v4 =>
((gRz "AlreadyHeld") (.tuple [value])).bind fun v5 =>
((gRz "TooManyOffers") (.tuple [value])).bind fun v6 =>
((gRz "TooFewHours") (.tuple [value])).bind fun v7 =>
((gRz "TooManyLessons") (.tuple [value])).bind fun v8 =>
((gRz "NoSchedule") (.tuple [value])).bind fun v9 =>
(gAddL (.list [v1, v2, v3, v4, v5]) (.list [v6, v7, v8, v9])).bind fun v10 =>
((gRz "BadRoster") (.tuple [value])).bind fun v11 =>
((gRz "BadList") (.tuple [value])).bind fun v12 =>
((gRz "TooManyEdits") (.tuple [value])).bind fun v13 =>
((gRz "BatchFailed") (.tuple [value])).bind fun v14 =>
((gRz "BadText") (.tuple [value])).bind fun v15 =>
(gAddL v10 (.list [v11, v12, v13, v14, v15])).bind fun v16 =>
((gRz "NoFreeHour") (.tuple [value, other])).bind fun v17 =>
(gAddL v16 (.list [v17, (.tuple [.str "NothingToUndo"]), (.tuple [.str "HasCycle"]), (.tuple [.str "BadLists"]), (.tuple [.str "BadBatch"]), (.tuple [.str "Busy"])])).bind fun v18 =>
((gRz "NoLesson") (.tuple [value])).bind fun v19 =>
((gRz "NoIndex") (.tuple [value])).bind fun v20 =>
((gRz "NoVersion") (.tuple [value])).bind fun v21 =>
((gRz "NoPerson") (.tuple [value, other])).bind fun v22 =>
(gAddL v18 (.list [v19, v20, v21, v22])).bind fun v23 =>
some v23
theorem f__law_errors_eq (value other : PyData) : F__law_errors [value, other] = (f__law_errors value other).bind fun r => some (r, [value, other]) := by
  simp -implicitDefEqProofs [F__law_errors, S__law_errors, f__law_errors, ite_bind', ifB_bind, thenS_bind, Option.bind_assoc]
def f__law_flags (e : PyData) : Option PyData :=
((gIsE rtv_TooLarge) e).bind fun v1 =>
((gIsE rtv_Unplaced) e).bind fun v2 =>
((gIsE rtv_ShortList) e).bind fun v3 =>
((gIsE rtv_BadOffer) e).bind fun v4 =>
((gIsE rtv_AlreadyHeld) e).bind fun v5 =>
((gIsE rtv_TooManyOffers) e).bind fun v6 =>
((gIsE rtv_TooFewHours) e).bind fun v7 =>
(gAdd (.list [v1, v2, v3, v4]) (.list [v5, v6, v7])).bind fun v8 =>
((gIsE rtv_TooManyLessons) e).bind fun v9 =>
((gIsE rtv_NoSchedule) e).bind fun v10 =>
((gIsE rtv_BadRoster) e).bind fun v11 =>
(gAdd v8 (.list [v9, v10, v11])).bind fun v12 =>
((gIsE rtv_BadList) e).bind fun v13 =>
((gIsE rtv_TooManyEdits) e).bind fun v14 =>
((gIsE rtv_BatchFailed) e).bind fun v15 =>
(gAdd v12 (.list [v13, v14, v15])).bind fun v16 =>
((gIsE rtv_BadText) e).bind fun v17 =>
((gIsE rtv_NoFreeHour) e).bind fun v18 =>
((gIsE rtv_NothingToUndo) e).bind fun v19 =>
(gAdd v16 (.list [v17, v18, v19])).bind fun v20 =>
((gIsE rtv_HasCycle) e).bind fun v21 =>
((gIsE rtv_BadLists) e).bind fun v22 =>
((gIsE rtv_BadBatch) e).bind fun v23 =>
((gIsE rtv_Busy) e).bind fun v24 =>
(gAdd v20 (.list [v21, v22, v23, v24])).bind fun v25 =>
((gIsE rtv_NoLesson) e).bind fun v26 =>
((gIsE rtv_NoIndex) e).bind fun v27 =>
((gIsE rtv_NoVersion) e).bind fun v28 =>
(gAdd v25 (.list [v26, v27, v28])).bind fun v29 =>
((gIsE rtv_NoPerson) e).bind fun v30 =>
(gAdd v29 (.list [v30])).bind fun v31 =>
some v31
theorem f__law_flags_eq (e : PyData) : F__law_flags [e] = (f__law_flags e).bind fun r => some (r, [e]) := by
  simp -implicitDefEqProofs [F__law_flags, S__law_flags, f__law_flags, ite_bind', ifB_bind, thenS_bind, Option.bind_assoc]
def f__law_fields (value other : PyData) : Option PyData :=
((gFldV ["bound"] "bound") (.tuple [value])).bind fun v1 =>
((gFldV ["lesson"] "lesson") (.tuple [value])).bind fun v2 =>
((gFldV ["lesson"] "lesson") (.tuple [value])).bind fun v3 =>
((gFldV ["value"] "value") (.tuple [value])).bind fun v4 =>
((gFldV ["lesson"] "lesson") (.tuple [value])).bind fun v5 =>
((gFldV ["bound"] "bound") (.tuple [value])).bind fun v6 =>
((gFldV ["degree"] "degree") (.tuple [value])).bind fun v7 =>
(gAdd (.list [v1, v2, v3, v4]) (.list [v5, v6, v7])).bind fun v8 =>
((gFldV ["bound"] "bound") (.tuple [value])).bind fun v9 =>
((gFldV ["value"] "value") (.tuple [value])).bind fun v10 =>
((gFldV ["error"] "error") (.tuple [value])).bind fun v11 =>
(gAddL v8 (.list [v9, v10, v11])).bind fun v12 =>
((gFldV ["value"] "value") (.tuple [value])).bind fun v13 =>
(gApp v12 v13).bind fun found14 =>
((gFldV ["bound"] "bound") (.tuple [value])).bind fun v15 =>
((gFldV ["index"] "index") (.tuple [value])).bind fun v16 =>
((gFldV ["index"] "index") (.tuple [value])).bind fun v17 =>
(gAdd found14 (.list [v15, v16, v17])).bind fun v18 =>
((gFldV ["side", "person"] "side") (.tuple [value, other])).bind fun v19 =>
((gFldV ["side", "value"] "side") (.tuple [value, other])).bind fun v20 =>
((gFldV ["value"] "value") (.tuple [value])).bind fun v21 =>
(gAddL v18 (.list [v19, v20, v21])).bind fun v22 =>
((gFldV ["value"] "value") (.tuple [value])).bind fun v23 =>
((gFldV ["value"] "value") (.tuple [value])).bind fun v24 =>
(gAdd v22 (.list [v23, v24])).bind fun v25 =>
some v25
theorem f__law_fields_eq (value other : PyData) : F__law_fields [value, other] = (f__law_fields value other).bind fun r => some (r, [value, other]) := by
  simp -implicitDefEqProofs [F__law_fields, S__law_fields, f__law_fields, ite_bind', ifB_bind, thenS_bind, Option.bind_assoc]
def f__law_same (found due : PyData) : Option PyData :=
(gRepr found).bind fun v1 =>
(gRepr due).bind fun v2 =>
(gEq v1 v2).bind fun v3 =>
some v3
theorem f__law_same_eq (found due : PyData) : F__law_same [found, due] = (f__law_same found due).bind fun r => some (r, [found, due]) := by
  simp -implicitDefEqProofs [F__law_same, S__law_same, f__law_same, ite_bind', ifB_bind, thenS_bind, Option.bind_assoc]
def C_law_1 (k : PyData) (d : PyData) : Option (PyData) :=
(gEq d k).bind fun v18 =>
some v18
theorem C_law_1_eq (script state_here turn value other errors_here k bases found field j : PyData) (xs : List PyData) : lcL [10] (gNm 10) bYes E_law_1 xs [script, state_here, turn, value, other, errors_here, k, bases, found, field, j] = (mapS xs (C_law_1 k)).bind fun r => some (r, [script, state_here, turn, value, other, errors_here, k, bases, found, field, j]) :=
  lc_map (vs := [10]) (gf := (gNm 10)) (ef := E_law_1) (C_law_1 k) (fun d => by simp -implicitDefEqProofs [E_law_1, C_law_1, ite_bind', ifB_bind, thenS_bind, Option.bind_assoc]) xs
def L_law_2 (errors_here : PyData) (d : PyData) (s : Unit) : Option (Out × Unit) :=
(itemD errors_here d).bind fun v8 =>
((gIsE rtv_ListError) v8).bind fun v9 =>
(itemD errors_here d).bind fun v10 =>
((gIsE rtv_ValueError) v10).bind fun v11 =>
(itemD errors_here d).bind fun v12 =>
((gIsE rtv_LookupError) v12).bind fun v13 =>
(gApp (.list [v9, v11]) v13).bind fun bases14 =>
(itemD errors_here d).bind fun v15 =>
(f__law_flags v15).bind fun v16 =>
(rng1 (.int 24)).bind fun v17 =>
(mapS v17 (C_law_1 d)).bind fun v19 =>
(gNe v16 (.list v19)).bind fun v20 =>
(asB v20).bind fun v21 =>
(if v21 = true then (some true) else ((gLt d (.int 20)).bind fun v22 =>
(gLt d (.int 20)).bind fun v23 =>
(gGe d (.int 20)).bind fun v24 =>
(gNe bases14 (.list [v22, v23, v24])).bind fun v25 =>
(asB v25).bind fun v26 =>
some v26)).bind fun v27 =>
if v27 = true then (some (.rt (.bool false), ())) else (some (.nx, ()))
theorem L_law_2_eq (script state_here turn value other errors_here found field j : PyData) (xs : List PyData) : forL (gNm 6) B_law_1 xs [script, state_here, turn, value, other, errors_here, .none, .none, found, field, j] = (forS xs (L_law_2 errors_here) ()).bind fun r => thenS r (fun s' => some (.nx, [script, state_here, turn, value, other, errors_here, .none, .none, found, field, j])) (fun d s' => some (.rt d, [.none, .none, .none, .none, .none, .none, .none, .none, .none, .none, .none])) :=
  for_ret (gf := (gNm 6)) (sf := B_law_1) (jr := [0, 1, 2, 3, 4, 5, 6, 7, 8, 9, 10]) (fun s : Unit => [script, state_here, turn, value, other, errors_here, .none, .none, found, field, j]) (L_law_2 errors_here) (fun d s => by simp (maxSteps := 2000000) -implicitDefEqProofs [B_law_1, L_law_2, C_law_1_eq, f__law_flags_eq, ite_bind', ifB_bind, thenS_bind, Option.bind_assoc]) xs ()
def C_law_2 (value : PyData) (d : PyData) : Option (Option PyData) :=
(f__law_same d value).bind fun v32 =>
(gTruth v32).bind fun v33 =>
if (!v33) = true then (some (some d)) else (some none)
theorem C_law_2_eq (script state_here turn value other errors_here k bases found field j : PyData) (xs : List PyData) : lcL [9] (gNm 9) T_law_1 E_law_2 xs [script, state_here, turn, value, other, errors_here, k, bases, found, field, j] = (filS xs (C_law_2 value)).bind fun r => some (r, [script, state_here, turn, value, other, errors_here, k, bases, found, field, j]) :=
  lc_fil (vs := [9]) (gf := (gNm 9)) (tf := T_law_1) (ef := E_law_2) (C_law_2 value) (fun d => by simp -implicitDefEqProofs [T_law_1, E_law_2, C_law_2, f__law_same_eq, ite_bind', ifB_bind, thenS_bind, Option.bind_assoc]) xs
def L_law_1 (d : PyData) (s : PyData) : Option (Out × PyData) :=
(f__law_odd s).bind fun v3 =>
(f__law_odd v3.2).bind fun v4 =>
(un2 (.tuple [v3.1, v4.1])).bind fun v5 =>
(f__law_errors v5.1 v5.2).bind fun v6 =>
(rng1 (.int 24)).bind fun v7 =>
(forS v7 (L_law_2 v6) ()).bind fun v28 =>
thenS v28 (fun s29 =>
(f__law_fields v5.1 v5.2).bind fun v30 =>
(seqD v30).bind fun v31 =>
(filS v31 (C_law_2 v5.1)).bind fun v34 =>
(gNe (.list v34) (.list [])).bind fun v35 =>
(asB v35).bind fun v36 =>
if v36 = true then (some (.rt (.bool false), v4.2)) else (((gFldV ["side", "person"] "person") (.tuple [v5.1, v5.2])).bind fun v37 =>
((gFldV ["side", "value"] "value") (.tuple [v5.1, v5.2])).bind fun v38 =>
(f__law_same (.list [v37, v38]) (.list [v5.2, v5.2])).bind fun v39 =>
(gTruth v39).bind fun v40 =>
if (!v40) = true then (some (.rt (.bool false), v4.2)) else (some (.nx, v4.2)))) (fun d42 s41 => some (.rt d42, v4.2))
theorem L_law_1_eq (script state_here found field j : PyData) (xs : List PyData) : forL (gNm 2) B_law_2 xs [script, state_here, .none, .none, .none, .none, .none, .none, found, field, j] = (forS xs (L_law_1) state_here).bind fun r => thenS r (fun s' => some (.nx, [script, s', .none, .none, .none, .none, .none, .none, found, field, j])) (fun d s' => some (.rt d, [.none, .none, .none, .none, .none, .none, .none, .none, .none, .none, .none])) :=
  for_ret (gf := (gNm 2)) (sf := B_law_2) (jr := [0, 1, 2, 3, 4, 5, 6, 7, 8, 9, 10]) (fun s : PyData => [script, s, .none, .none, .none, .none, .none, .none, found, field, j]) (L_law_1) (fun d s => by simp (maxSteps := 2000000) -implicitDefEqProofs [B_law_2, L_law_1, L_law_2_eq, C_law_2_eq, f__law_odd_eq, f__law_errors_eq, f__law_flags_eq, f__law_fields_eq, f__law_same_eq, ite_bind', ifB_bind, thenS_bind, Option.bind_assoc]) xs state_here
def f_law (script : PyData) : Option PyData :=
(f__law_state script).bind fun v1 =>
(rng1 (.int 4)).bind fun v2 =>
(forS v2 (L_law_1) v1).bind fun v43 =>
thenS v43 (fun s44 =>
(gAdd (.list [(.int 8), (.int 16), (.int 1000000), (.int 20), (.int 12), (.int 100), (.int 20000)]) (.list [(.int 60), (.int 20)])).bind fun v45 =>
(gPow (.int 10) (.int 6)).bind fun v46 =>
(f__law_same v45 (.list [(.int 8), (.int 16), v46, (.int 20), (.int 12), (.int 100), (.int 20000), (.int 60), (.int 20)])).bind fun v47 =>
some v47) (fun d49 s48 => some d49)
theorem f_law_eq (script : PyData) : F_law [script] = (f_law script).bind fun r => some (r, [script]) := by
  simp -implicitDefEqProofs [F_law, S_law, f_law, L_law_1_eq, f__law_state_eq, f__law_odd_eq, f__law_errors_eq, f__law_flags_eq, f__law_fields_eq, f__law_same_eq, ite_bind', ifB_bind, thenS_bind, Option.bind_assoc]
end LK
namespace LK
open PySem L2 PySem.Spec DL
def nums (xs : List Int) : List PyData := xs.map .int
def Deck (k : Nat) (d : PyData) : Prop := ∃ (as bs : List Int) (t : Int), d = .list [.list (nums as), .list (nums bs), .int t] ∧ (∀ a ∈ as, 0 ≤ a) ∧ as.length ≤ 63 ∧ bs ≠ [] ∧ 0 ≤ t ∧ t ≤ k
theorem Deck.mono {k k' : Nat} {d : PyData} (h : Deck k d) (l : k ≤ k') : Deck k' d := by
  obtain ⟨as, bs, t, h1, h2, h3, h4, h5, h6⟩ := h
  exact ⟨as, bs, t, h1, h2, h3, h4, h5, by omega⟩
def absI (i : Int) : Int := if i < 0 then -i else i
theorem state_ok (ns : List Int) (h : ns.length ≤ 63) : ∃ d, f__law_state (.list (ns.map .int)) = some d ∧ Deck 0 d := by
  have h1 : mapS (ns.map .int) C__law_state_1 = some (ns.map fun i => .int (absI i)) := mapS_of fun i _ => rfl
  have h2 : filS ((ns.map absI).map .int) C__law_state_2 = some (((ns.map absI).filter fun i => decide ((10 : Int) ^ 18 ≤ i)).map .int) := filS_of fun i _ => by
    simp [C__law_state_2, xPow]
    split <;> rfl
  have e3 : (ns.map fun i => PyData.int (absI i)) = (ns.map absI).map .int := by rw [List.map_map]; rfl
  have hl : (((ns.map absI).map PyData.int).length : Nat) + 1 ≤ 1000000 := by simp; omega
  refine ⟨.list [.list (nums ((ns.map absI).filter fun i => decide ((10 : Int) ^ 18 ≤ i))), .list (nums (ns.map absI ++ [(((ns.map absI).map PyData.int).length : Int) + 7])), .int 0], ?_, _, _, _, rfl, fun a ha => ?_, ?_, by simp, by decide, by decide⟩
  · unfold f__law_state
    simp only [xSeqL, Option.bind_some, h1, e3, h2, xLenL, xAdd]
    rw [xAddLL (by simpa using hl)]
    simp [nums]
  · have := (List.mem_filter.mp ha).2
    have h := of_decide_eq_true this
    have : (0 : Int) ≤ 10 ^ 18 := by decide
    omega
  · refine Nat.le_trans (List.length_filter_le _ _) ?_
    rw [List.length_map]; exact h
theorem draw_ok {k : Nat} {d : PyData} (hd : Deck k d) (hk : k ≤ 1000000000) (m : Int) (hm : 0 < m) (hm2 : m < 1073741824) : ∃ r d', f__law_draw d (.int m) = some (.int r, d') ∧ Deck (k + 1) d' ∧ 0 ≤ r ∧ r < m := by
  obtain ⟨as, bs, t, rfl, ha, hl, hb, ht, htk⟩ := hd
  have loop : ∀ (as : List Int) (n : Nat), as.length < n → (∀ a ∈ as, 0 ≤ a) → as.length ≤ 63 →
      (∃ as' r, whR n WL__law_draw_1 (L__law_draw_1 (.int m)) (.list [.list (nums as), .list (nums bs), .int t]) = some (.rt (.int r), .list [.list (nums as'), .list (nums bs), .int t]) ∧ (∀ a ∈ as', 0 ≤ a) ∧ as'.length ≤ 63 ∧ 0 ≤ r ∧ r < m) ∨
      whR n WL__law_draw_1 (L__law_draw_1 (.int m)) (.list [.list (nums as), .list (nums bs), .int t]) = some (.nx, .list [.list [], .list (nums bs), .int t]) := by
    intro as
    induction as with
    | nil =>
      intro n hn _ _
      cases n with
      | zero => omega
      | succ n => exact .inr (whR_end (by simp [WL__law_draw_1, nums, plain_nil]))
    | cons a as ih =>
      intro n hn hp hl
      cases n with
      | zero => omega
      | succ n =>
        have h0 := hp a (List.mem_cons_self ..)
        have hpl : PyData.plainAll (nums (a :: as)) = true := plain_map fun _ => rfl
        have hc : WL__law_draw_1 (.list [.list (nums (a :: as)), .list (nums bs), .int t]) = some true := by
          simp [WL__law_draw_1, hpl]
          simp [nums]
        by_cases hz : 0 < a
        · refine .inl ⟨(a / m) :: as, a % m, whR_ret hc ?_, ?_, hl, Int.emod_nonneg _ (by omega), Int.emod_lt_of_pos _ hm⟩
          · simp [L__law_draw_1, nums, hz, xFdiv hm hm2, xMod hm, gSet, setD]
          · intro b hb
            rcases List.mem_cons.mp hb with z | z
            · rw [z]; exact Int.ediv_nonneg h0 (by omega)
            · exact hp b (List.mem_cons_of_mem _ z)
        · have ha0 : a = 0 := by omega
          subst ha0
          have := ih n (by simpa using hn) (fun b hb => hp b (List.mem_cons_of_mem _ hb)) (by simp at hl; omega)
          rw [whR_step hc (s' := .list [.list (nums as), .list (nums bs), .int t]) (by simp [L__law_draw_1, nums, gPopAt, setD])]
          exact this
  rcases loop as fuel (Nat.lt_of_le_of_lt hl (by decide)) ha hl with ⟨as', r, h1, h2, h3, h4, h5⟩ | h1
  · refine ⟨r, _, ?_, ⟨as', bs, t, rfl, h2, h3, hb, ht, by omega⟩, h4, h5⟩
    unfold f__law_draw
    rw [h1]
    rfl
  · have hbl : 0 < bs.length := List.length_pos_iff.mpr hb
    have hbl' : 0 < (((nums bs).length : Nat) : Int) := by rw [nums, List.length_map]; omega
    have ix0 : 0 ≤ (t + 1) % (((nums bs).length : Nat) : Int) := Int.emod_nonneg _ (by omega)
    have ix1 : (t + 1) % (((nums bs).length : Nat) : Int) < bs.length := by
      have := Int.emod_lt_of_pos (t + 1) hbl'
      simpa [nums] using this
    obtain ⟨c, _, _, hat'⟩ := at_map (f := PyData.int) ix0 ix1
    have hc0 : 0 ≤ c % 2147483629 := Int.emod_nonneg _ (by decide)
    have hc1 : c % 2147483629 < 2147483629 := Int.emod_lt_of_pos _ (by decide)
    have m1 := xMul (i := 2) (j := t + 1) (.inl (by decide))
    have m2 := xMul (i := c % 2147483629) (j := 69621 + 2 * (t + 1)) (.inl (by omega))
    have m3 := xMul (i := 48271) (j := t + 1) (.inl (by decide))
    have m4 := xMul (i := 48271 * (t + 1)) (j := t + 1) (.inr (by omega))
    generalize hw : (c % 2147483629 * (69621 + 2 * (t + 1)) + 30011 + 48271 * (t + 1) * (t + 1)) % 2147483587 = w
    have hw0 : 0 ≤ w := by rw [← hw]; exact Int.emod_nonneg _ (by decide)
    have hw1 : w < 2147483587 := by rw [← hw]; exact Int.emod_lt_of_pos _ (by decide)
    have m5 := xMul (i := w) (j := w) (.inl (by omega))
    refine ⟨w * w % 2147483563 / 16 % m, .list [.list (nums []), .list (nums bs), .int (t + 1)], ?_, ⟨[], bs, t + 1, rfl, fun a h => (by cases h), by simp, hb, by omega, by omega⟩, Int.emod_nonneg _ (by omega), Int.emod_lt_of_pos _ hm⟩
    unfold f__law_draw
    rw [h1]
    have k1 := xMod (i := t + 1) hbl'
    have k2 := xMod (i := c) (j := 2147483629) (by decide)
    have k3 := xMod (i := c % 2147483629 * (69621 + 2 * (t + 1)) + 30011 + 48271 * (t + 1) * (t + 1)) (j := 2147483587) (by decide)
    have k4 := xMod (i := w * w) (j := 2147483563) (by decide)
    have k5 := xFdiv (i := w * w % 2147483563) (j := 16) (by decide) (by decide)
    have k6 := xMod (i := w * w % 2147483563 / 16) hm
    rw [hw] at k3
    simp -implicitDefEqProofs only [thenS_nx, List.length_cons, List.length_nil, xIxL, at2, at1, at0, Option.bind_some, scInt, grd_true, xAdd, gSet, ixn2, List.set_cons_succ, List.set_cons_zero, xItem, xLenL, k1, show atI (nums bs) ((t + 1) % (((nums bs).length : Nat) : Int)) = some (PyData.int c) from hat', k2, m1, m2, m3, m4, k3, m5, k4, k5, k6]
    rfl
end LK
namespace LK
open PySem L2 PySem.Spec DL
def Ok {α : Type} (m : Option α) (Q : α → Prop) : Prop := ∃ a, m = some a ∧ Q a
theorem Ok.post {α β : Type} {m : Option α} {f : α → Option β} {Q : β → Prop} (P : α → Prop) (h : Ok m P) (k : ∀ a, P a → Ok (f a) Q) : Ok (m.bind f) Q := by
  obtain ⟨a, e, p⟩ := h
  rw [e]; exact k a p
theorem Ok.ret {α : Type} {a : α} {Q : α → Prop} (h : Q a) : Ok (some a) Q := ⟨a, rfl, h⟩
theorem Ok.ite {α : Type} {c : Prop} [Decidable c] {x y : Option α} {Q : α → Prop} (h1 : c → Ok x Q) (h2 : ¬ c → Ok y Q) : Ok (if c then x else y) Q := by
  split
  · rename_i h; exact h1 h
  · rename_i h; exact h2 h
theorem Ok.mono {α : Type} {m : Option α} {Q Q' : α → Prop} (h : Ok m Q) (k : ∀ a, Q a → Q' a) : Ok m Q' := by
  obtain ⟨a, e, p⟩ := h
  exact ⟨a, e, k a p⟩
end LK
namespace LK
open PySem L2 PySem.Spec DL
@[simp] theorem xStrB {b : Bool} : gStr (.bool b) = some (.str (if b = true then "True" else "False")) := rfl
end LK
namespace LK
open PySem L2 PySem.Spec DL
def nms : List Str := ["TooLarge", "Unplaced", "ShortList", "BadOffer", "AlreadyHeld", "TooManyOffers", "TooFewHours", "TooManyLessons", "NoSchedule", "BadRoster", "BadList", "TooManyEdits", "BatchFailed", "BadText", "NoFreeHour", "NothingToUndo", "HasCycle", "BadLists", "BadBatch", "Busy", "NoLesson", "NoIndex", "NoVersion", "NoPerson"]
def errL (v o : PyData) : List PyData := [.tuple (.str "TooLarge" :: [v]), .tuple (.str "Unplaced" :: [v]), .tuple (.str "ShortList" :: [v]), .tuple (.str "BadOffer" :: [v]), .tuple (.str "AlreadyHeld" :: [v]), .tuple (.str "TooManyOffers" :: [v]), .tuple (.str "TooFewHours" :: [v]), .tuple (.str "TooManyLessons" :: [v]), .tuple (.str "NoSchedule" :: [v]), .tuple (.str "BadRoster" :: [v]), .tuple (.str "BadList" :: [v]), .tuple (.str "TooManyEdits" :: [v]), .tuple (.str "BatchFailed" :: [v]), .tuple (.str "BadText" :: [v]), .tuple (.str "NoFreeHour" :: [o, v]), .tuple (.str "NothingToUndo" :: []), .tuple (.str "HasCycle" :: []), .tuple (.str "BadLists" :: []), .tuple (.str "BadBatch" :: []), .tuple (.str "Busy" :: []), .tuple (.str "NoLesson" :: [v]), .tuple (.str "NoIndex" :: [v]), .tuple (.str "NoVersion" :: [v]), .tuple (.str "NoPerson" :: [o, v])]
theorem errors_ok (v o : PyData) : f__law_errors v o = some (.list (errL v o)) := by rfl
theorem err_at (v o : PyData) {k : Nat} (hk : k < 24) : ∃ ds, itemD (.list (errL v o)) (natD k) = some (.tuple (.str (nms.getD k "") :: ds)) := by
  have a : itemD (.list (errL v o)) (.int ((k : Nat) : Int)) = (errL v o)[k]? := by
    show atI (errL v o) ((k : Nat) : Int) = _
    rw [at_nat (l := errL v o) hk]
    exact (List.getElem?_eq_getElem hk).symm
  have b : ∀ k : Nat, k < 24 → ∃ ds, (errL v o)[k]? = some (.tuple (.str (nms.getD k "") :: ds)) := by
    intro k hk
    match k, hk with
    | 0, _ => exact ⟨[v], rfl⟩
    | 1, _ => exact ⟨[v], rfl⟩
    | 2, _ => exact ⟨[v], rfl⟩
    | 3, _ => exact ⟨[v], rfl⟩
    | 4, _ => exact ⟨[v], rfl⟩
    | 5, _ => exact ⟨[v], rfl⟩
    | 6, _ => exact ⟨[v], rfl⟩
    | 7, _ => exact ⟨[v], rfl⟩
    | 8, _ => exact ⟨[v], rfl⟩
    | 9, _ => exact ⟨[v], rfl⟩
    | 10, _ => exact ⟨[v], rfl⟩
    | 11, _ => exact ⟨[v], rfl⟩
    | 12, _ => exact ⟨[v], rfl⟩
    | 13, _ => exact ⟨[v], rfl⟩
    | 14, _ => exact ⟨[o, v], rfl⟩
    | 15, _ => exact ⟨[], rfl⟩
    | 16, _ => exact ⟨[], rfl⟩
    | 17, _ => exact ⟨[], rfl⟩
    | 18, _ => exact ⟨[], rfl⟩
    | 19, _ => exact ⟨[], rfl⟩
    | 20, _ => exact ⟨[v], rfl⟩
    | 21, _ => exact ⟨[v], rfl⟩
    | 22, _ => exact ⟨[v], rfl⟩
    | 23, _ => exact ⟨[o, v], rfl⟩
    | k + 24, hk => omega
  obtain ⟨ds, e⟩ := b k hk
  exact ⟨ds, a.trans e⟩
theorem isE_at {rt : List (Str × Bool)} {c : Str} {ds : List PyData} {b : Bool} (h : rt.lookup c = some b) : gIsE rt (.tuple (.str c :: ds)) = some (.bool b) := by
  show (rt.lookup c).bind _ = _
  rw [h]; rfl
theorem look_0 : ∀ k, k < 24 → rtv_TooLarge.lookup (nms.getD k "") = some (decide (0 = k)) := by decide +kernel
theorem look_1 : ∀ k, k < 24 → rtv_Unplaced.lookup (nms.getD k "") = some (decide (1 = k)) := by decide +kernel
theorem look_2 : ∀ k, k < 24 → rtv_ShortList.lookup (nms.getD k "") = some (decide (2 = k)) := by decide +kernel
theorem look_3 : ∀ k, k < 24 → rtv_BadOffer.lookup (nms.getD k "") = some (decide (3 = k)) := by decide +kernel
theorem look_4 : ∀ k, k < 24 → rtv_AlreadyHeld.lookup (nms.getD k "") = some (decide (4 = k)) := by decide +kernel
theorem look_5 : ∀ k, k < 24 → rtv_TooManyOffers.lookup (nms.getD k "") = some (decide (5 = k)) := by decide +kernel
theorem look_6 : ∀ k, k < 24 → rtv_TooFewHours.lookup (nms.getD k "") = some (decide (6 = k)) := by decide +kernel
theorem look_7 : ∀ k, k < 24 → rtv_TooManyLessons.lookup (nms.getD k "") = some (decide (7 = k)) := by decide +kernel
theorem look_8 : ∀ k, k < 24 → rtv_NoSchedule.lookup (nms.getD k "") = some (decide (8 = k)) := by decide +kernel
theorem look_9 : ∀ k, k < 24 → rtv_BadRoster.lookup (nms.getD k "") = some (decide (9 = k)) := by decide +kernel
theorem look_10 : ∀ k, k < 24 → rtv_BadList.lookup (nms.getD k "") = some (decide (10 = k)) := by decide +kernel
theorem look_11 : ∀ k, k < 24 → rtv_TooManyEdits.lookup (nms.getD k "") = some (decide (11 = k)) := by decide +kernel
theorem look_12 : ∀ k, k < 24 → rtv_BatchFailed.lookup (nms.getD k "") = some (decide (12 = k)) := by decide +kernel
theorem look_13 : ∀ k, k < 24 → rtv_BadText.lookup (nms.getD k "") = some (decide (13 = k)) := by decide +kernel
theorem look_14 : ∀ k, k < 24 → rtv_NoFreeHour.lookup (nms.getD k "") = some (decide (14 = k)) := by decide +kernel
theorem look_15 : ∀ k, k < 24 → rtv_NothingToUndo.lookup (nms.getD k "") = some (decide (15 = k)) := by decide +kernel
theorem look_16 : ∀ k, k < 24 → rtv_HasCycle.lookup (nms.getD k "") = some (decide (16 = k)) := by decide +kernel
theorem look_17 : ∀ k, k < 24 → rtv_BadLists.lookup (nms.getD k "") = some (decide (17 = k)) := by decide +kernel
theorem look_18 : ∀ k, k < 24 → rtv_BadBatch.lookup (nms.getD k "") = some (decide (18 = k)) := by decide +kernel
theorem look_19 : ∀ k, k < 24 → rtv_Busy.lookup (nms.getD k "") = some (decide (19 = k)) := by decide +kernel
theorem look_20 : ∀ k, k < 24 → rtv_NoLesson.lookup (nms.getD k "") = some (decide (20 = k)) := by decide +kernel
theorem look_21 : ∀ k, k < 24 → rtv_NoIndex.lookup (nms.getD k "") = some (decide (21 = k)) := by decide +kernel
theorem look_22 : ∀ k, k < 24 → rtv_NoVersion.lookup (nms.getD k "") = some (decide (22 = k)) := by decide +kernel
theorem look_23 : ∀ k, k < 24 → rtv_NoPerson.lookup (nms.getD k "") = some (decide (23 = k)) := by decide +kernel
theorem look_ListError : ∀ k, k < 24 → rtv_ListError.lookup (nms.getD k "") = some (decide (k < 20)) := by decide +kernel
theorem look_ValueError : ∀ k, k < 24 → rtv_ValueError.lookup (nms.getD k "") = some (decide (k < 20)) := by decide +kernel
theorem look_LookupError : ∀ k, k < 24 → rtv_LookupError.lookup (nms.getD k "") = some (decide (20 ≤ k)) := by decide +kernel
theorem flags_ok {k : Nat} (hk : k < 24) (ds : List PyData) : f__law_flags (.tuple (.str (nms.getD k "") :: ds)) = some (.list ((List.range 24).map fun j => .bool (decide (j = k)))) := by
  have h0 := isE_at (ds := ds) (look_0 k hk)
  have h1 := isE_at (ds := ds) (look_1 k hk)
  have h2 := isE_at (ds := ds) (look_2 k hk)
  have h3 := isE_at (ds := ds) (look_3 k hk)
  have h4 := isE_at (ds := ds) (look_4 k hk)
  have h5 := isE_at (ds := ds) (look_5 k hk)
  have h6 := isE_at (ds := ds) (look_6 k hk)
  have h7 := isE_at (ds := ds) (look_7 k hk)
  have h8 := isE_at (ds := ds) (look_8 k hk)
  have h9 := isE_at (ds := ds) (look_9 k hk)
  have h10 := isE_at (ds := ds) (look_10 k hk)
  have h11 := isE_at (ds := ds) (look_11 k hk)
  have h12 := isE_at (ds := ds) (look_12 k hk)
  have h13 := isE_at (ds := ds) (look_13 k hk)
  have h14 := isE_at (ds := ds) (look_14 k hk)
  have h15 := isE_at (ds := ds) (look_15 k hk)
  have h16 := isE_at (ds := ds) (look_16 k hk)
  have h17 := isE_at (ds := ds) (look_17 k hk)
  have h18 := isE_at (ds := ds) (look_18 k hk)
  have h19 := isE_at (ds := ds) (look_19 k hk)
  have h20 := isE_at (ds := ds) (look_20 k hk)
  have h21 := isE_at (ds := ds) (look_21 k hk)
  have h22 := isE_at (ds := ds) (look_22 k hk)
  have h23 := isE_at (ds := ds) (look_23 k hk)
  simp -implicitDefEqProofs only [f__law_flags, h0, h1, h2, h3, h4, h5, h6, h7, h8, h9, h10, h11, h12, h13, h14, h15, h16, h17, h18, h19, h20, h21, h22, h23, Option.bind_some]
  rfl
theorem eqv_bools : ∀ (a b : List Bool), PyData.eqvAll (a.map .bool) (b.map .bool) = decide (a = b)
  | [], [] => by rw [List.map_nil, eqv_nil]; rfl
  | [], _ :: _ => by rw [List.map_nil, List.map_cons]; rfl
  | _ :: _, [] => by rw [List.map_nil, List.map_cons, eqv_nil]; rfl
  | x :: a, y :: b => by
    rw [List.map_cons, List.map_cons, eqv_cons, eqv_bools a b, eqv_bool, Bool.eq_iff_iff, Bool.and_eq_true, decide_eq_true_eq, decide_eq_true_eq, beq_iff_eq]
    constructor
    · rintro ⟨rfl, rfl⟩; rfl
    · intro z; injection z with z1 z2; exact ⟨z1, z2⟩
theorem ne_bools (a : List Bool) : gNe (.list (a.map .bool)) (.list (a.map .bool)) = some (.bool false) := by
  have d : PyData.depthAll (a.map .bool) ≤ 0 := depth_map (f := PyData.bool) (n := 0) fun _ => Nat.le_refl 0
  have p : PyData.plainAll (a.map .bool) = true := plain_map fun _ => rfl
  rw [gNe_ok (.inr (by rw [depth_list]; omega)) (by rw [plain_list]; exact p) (by rw [plain_list]; exact p), eqv_list, eqv_bools, decide_eq_true rfl]
  rfl
theorem one_ok (v o : PyData) {k : Nat} (hk : k < 24) : L_law_2 (.list (errL v o)) (natD k) () = some (.nx, ()) := by
  obtain ⟨ds, e⟩ := err_at v o hk
  have i1 := isE_at (ds := ds) (look_ListError k hk)
  have i2 := isE_at (ds := ds) (look_ValueError k hk)
  have i3 := isE_at (ds := ds) (look_LookupError k hk)
  have rg : rng1 (.int 24) = some ((List.range 24).map natD) := rng1_ok (by decide) (by decide)
  have mp : mapS ((List.range 24).map natD) (C_law_1 (natD k)) = some ((List.range 24).map fun j => .bool (decide (j = k))) := mapS_of fun j _ => by
    have q : gEq (natD j) (natD k) = some (.bool (decide (j = k))) := by
      show gEq (.int ((j : Nat) : Int)) (.int ((k : Nat) : Int)) = _
      rw [xEq]; congr 2; rw [decide_eq_decide]; omega
    simp only [C_law_1, q, Option.bind_some]
  have n1 : gNe (.list ((List.range 24).map fun j => PyData.bool (decide (j = k)))) (.list ((List.range 24).map fun j => .bool (decide (j = k)))) = some (.bool false) := by
    have := ne_bools ((List.range 24).map fun j => decide (j = k))
    rw [List.map_map] at this
    exact this
  have lt : gLt (natD k) (.int 20) = some (.bool (decide (k < 20))) := by
    show gLt (.int ((k : Nat) : Int)) (.int 20) = _
    rw [xLt]; congr 2; rw [decide_eq_decide]; omega
  have ge : gGe (natD k) (.int 20) = some (.bool (decide (20 ≤ k))) := by
    show gGe (.int ((k : Nat) : Int)) (.int 20) = _
    rw [xGe]; congr 2; rw [decide_eq_decide]; omega
  have ap : gApp (.list [.bool (decide (k < 20)), .bool (decide (k < 20))]) (.bool (decide (20 ≤ k))) = some (.list [.bool (decide (k < 20)), .bool (decide (k < 20)), .bool (decide (20 ≤ k))]) := xApp (by show (2 : Nat) ≤ 1000000; decide)
  have n2 := ne_bools [decide (k < 20), decide (k < 20), decide (20 ≤ k)]
  have n2 : gNe (.list [.bool (decide (k < 20)), .bool (decide (k < 20)), .bool (decide (20 ≤ k))]) (.list [.bool (decide (k < 20)), .bool (decide (k < 20)), .bool (decide (20 ≤ k))]) = some (.bool false) := n2
  simp -implicitDefEqProofs only [L_law_2, e, i1, i2, i3, ap, flags_ok hk, rg, mp, n1, lt, ge, n2, asB_bool, Bool.false_eq_true, if_false, Option.bind_some]
def oddL : List PyData := [.none, .bool true, .bool false, .int (-1), .int 0, .int 1, .int 2, .int 8, .int 1000000, .int 1000001, .int 100000000000000000000000000000, .str "", .str "0", .str "none", .tuple [], .list [], .dict [], .tuple [.int 0], .list [.int 0],
  .tuple [.int 0, .int 0], .tuple [.int 0, .int 1], .tuple [.tuple [.int 0, .int 0]], .tuple [.bool true], .dict [(.str "a", .int 1)]]
theorem odd_vl : ∀ v ∈ oddL, Vl 10 900000 v := by
  have h1 : (oddL.all fun v => v.showable && decide (v.depth ≤ 10) && decide (wt v ≤ 900000)) = true := by decide +kernel
  intro v hv
  have a := List.all_eq_true.mp h1 v hv
  rw [Bool.and_eq_true, Bool.and_eq_true, decide_eq_true_eq, decide_eq_true_eq] at a
  exact ⟨a.1.1, a.1.2, a.2⟩
theorem odd_ok {k : Nat} {d : PyData} (hd : Deck k d) (hk : k ≤ 900000000) : ∃ v d', f__law_odd d = some (v, d') ∧ Vl 10 900000 v ∧ Deck (k + 1) d' := by
  obtain ⟨r, d1, h1, k1, r0, r1⟩ := draw_ok hd (by omega) 24 (by omega) (by omega)
  obtain ⟨j, rfl⟩ : ∃ n : Nat, r = (n : Nat) := ⟨r.toNat, (Int.toNat_of_nonneg r0).symm⟩
  have p6 : gPow (.int 10) (.int 6) = some (.int 1000000) := xPow (by decide) (by decide) (by decide)
  have p29 : gPow (.int 10) (.int 29) = some (.int 100000000000000000000000000000) := xPow (by decide) (by decide) (by decide)
  have a1 : gAdd (.int 1000000) (.int 1) = some (.int 1000001) := rfl
  have ap : gAdd (.list [.none, .bool true, .bool false, .int (-1), .int 0, .int 1, .int 2, .int 8, .int 1000000, .int 1000001, .int 100000000000000000000000000000, .str "", .str "0", .str "none", .tuple [], .list [], .dict [], .tuple [.int 0], .list [.int 0]])
      (.list [.tuple [.int 0, .int 0], .tuple [.int 0, .int 1], .tuple [.tuple [.int 0, .int 0]], .tuple [.bool true], .dict [(.str "a", .int 1)]]) = some (.list oddL) := xAddL (by decide)
  have ix : gIx (.list oddL) (.int ((j : Nat) : Int)) = some (oddL[j]'(by show j < 24; omega)) := by rw [xIxL]; exact at_nat _
  refine ⟨_, d1, ?_, odd_vl _ (List.getElem_mem (by show j < 24; omega)), k1⟩
  simp -implicitDefEqProofs only [f__law_odd, xNeg, p6, a1, p29, ap, h1, ix, Option.bind_some]
theorem same_ok {d : PyData} (h : Vl 58 16000000 d) : f__law_same d d = some (.bool true) := by
  have r := gRepr_ok h (by decide) (by decide)
  simp -implicitDefEqProofs only [f__law_same, r, xEqS, beq_self_eq_true, Option.bind_some]
theorem fields_ok (v o : PyData) : f__law_fields v o = some (.list ((List.range 19).map fun _ => v)) := by rfl
theorem turn08 {k : Nat} {d : PyData} (hd : Deck k d) (hk : k ≤ 500000) (x : PyData) : ∃ d', L_law_1 x d = some (.nx, d') ∧ Deck (k + 2) d' := by
  obtain ⟨v, d1, h1, v1, k1⟩ := odd_ok hd (by omega)
  obtain ⟨o, d2, h2, v2, k2⟩ := odd_ok k1 (by omega)
  have u2 : un2 (.tuple [v, o]) = some (v, o) := rfl
  have rg : rng1 (.int 24) = some ((List.range 24).map natD) := rng1_ok (by decide) (by decide)
  have lp := forS_all (f := L_law_2 (.list (errL v o))) (l := (List.range 24).map natD) fun a ha => by
    obtain ⟨k, hk, rfl⟩ := List.mem_map.mp ha
    exact one_ok v o (List.mem_range.mp hk)
  have sv := same_ok (v1.mono (n' := 58) (s' := 16000000) (by decide) (by decide))
  have fl : filS ((List.range 19).map fun _ => v) (C_law_2 v) = some (((List.range 19).filter fun _ => false).map fun _ => v) := filS_of fun _ _ => by
    simp -implicitDefEqProofs only [C_law_2, sv, xTruB, Bool.not_true, Bool.false_eq_true, if_false, Option.bind_some]
  have fe : ((List.range 19).filter fun _ => false).map (fun _ => v) = [] := by simp
  rw [fe] at fl
  have f1 : gFldV ["side", "person"] "person" (.tuple [v, o]) = some o := rfl
  have f2 : gFldV ["side", "value"] "value" (.tuple [v, o]) = some o := rfl
  have so := same_ok (d := .list [o, o]) ((VlL.cons v2 (VlL.cons v2 (VlL.nil (s := 0)))).list.mono (by decide) (by decide))
  refine ⟨d2, ?_, k2⟩
  simp -implicitDefEqProofs only [L_law_1, h1, h2, u2, errors_ok, rg, lp, thenS_nx, fields_ok, xSeqL, fl, xNeNilL, List.isEmpty_nil, Bool.not_true, asB_bool, Bool.false_eq_true, if_false, f1, f2, so, xTruB, Option.bind_some]
theorem law_true (ns : List Int) (h : ns.length ≤ 63) : ∃ fs, F_law [.list (ns.map .int)] = some (.bool true, fs) := by
  obtain ⟨d, h1, k1⟩ := state_ok ns h
  have r : rng1 (.int 4) = some ((List.range 4).map natD) := rng1_ok (by decide) (by decide)
  obtain ⟨s', h2, _⟩ := forS_range (f := L_law_1) (n := 4) (s := d) (fun i s => Deck (2 * i) s) k1 fun i s hi hs => by
    obtain ⟨d', e, k'⟩ := turn08 hs (by omega) (natD i)
    exact ⟨d', e, k'.mono (by omega)⟩
  have p6 : gPow (.int 10) (.int 6) = some (.int 1000000) := xPow (by decide) (by decide) (by decide)
  have ap : gAdd (.list [.int 8, .int 16, .int 1000000, .int 20, .int 12, .int 100, .int 20000]) (.list [.int 60, .int 20]) = some (.list [.int 8, .int 16, .int 1000000, .int 20, .int 12, .int 100, .int 20000, .int 60, .int 20]) := xAddL (by decide)
  have sm := same_ok (d := .list [.int 8, .int 16, .int 1000000, .int 20, .int 12, .int 100, .int 20000, .int 60, .int 20]) ⟨by decide +kernel, by decide +kernel, by decide +kernel⟩
  rw [f_law_eq]
  have : f_law (.list (ns.map .int)) = some (.bool true) := by
    simp -implicitDefEqProofs only [f_law, h1, Option.bind_some, r, h2, thenS_nx, p6, ap, sm]
  rw [this]
  exact ⟨_, rfl⟩
end LK
namespace LK
open PySem L2 PySem.Spec PyProof.Rows DL
section
variable {P : Program} {w : World} {K : PySem.W.Frag} {mg : Str → Option Value} {base : Heap}
theorem cal__law_state (z_abs : mg "abs" = none) (z_len : mg "len" = none) {f : Addr} {fd : FuncData} (F : L2.Fun K "_law_state" "_law_state" st__law_state f fd) (hm : mg "_law_state" = some (.ref f)) (b : Binds K fd ["_law_script"] []) : CalG P w K mg base 1 "_law_state" [.q] (.r [(.l .s), (.l .s), .s]) F__law_state :=
  ⟨f, fd, ["_law_script"], fnG_dl (sf := S__law_state) (mr := [.u, .u, .u]) (po := []) (r := 2) F sc__law_state rfl rfl (.stb rfl (.nil _ _)) (.inr (nnx_seq nnx_ret)) (fun cdv A outer s H E _ _ _ =>
      ss_cons (ds_setLc 1 [("_law_cell", 2)] (pi_q 0) (pg_nm 2) (pts_no) (pd_b1 clAbs z_abs bt_abs (pd_var 2)))
      (ss_one (ds_ret (pd_rec (pl_cons (pd_lc [("_law_cell", 2)] (pi_seq (pd_frzVar 1)) (pg_nm 2) (pts_if (pb_cmp opGe (pd_var 2) (pd_bin opPow (pd_int) (pd_int)))) (pd_var 2)) (pl_cons (pd_bin opAddL (pd_var 1) (pd_frz (pd_lst (k := 1) .s (pl_cons (pd_bin opAdd (pd_b1 clLen z_len bt_len (pd_var 1)) (pd_int)) (pl_nil))))) (pl_cons (pd_int) (pl_nil))))) (.cons (.u _) (.cons (.u _) (.cons (.rfl _) .nil)))))), hm, F.kp, b⟩
theorem cal__law_draw (z_len : mg "len" = none) {f : Addr} {fd : FuncData} (F : L2.Fun K "_law_draw" "_law_draw" st__law_draw f fd) (hm : mg "_law_draw" = some (.ref f)) (b : Binds K fd ["_law_state_here", "_law_limit"] []) : CalG P w K mg base 1 "_law_draw" [(.r [(.l .s), (.l .s), .s]), .s] .s F__law_draw :=
  ⟨f, fd, ["_law_state_here", "_law_limit"], fnG_dl (sf := S__law_draw) (mr := [(.r [(.l .s), (.l .s), .s]), .u, .u, .u, .u]) (po := [0]) (r := 3) F sc__law_draw rfl rfl (.own (by decide) (.stb rfl (.nil _ _))) (.inl rfl) (fun cdv A outer s H E _ _ _ =>
      ss_cons (ds_pre [2] (ds_wh fuel [(.r [(.l .s), (.l .s), .s]), .s, .u, .u, .u] (.cons (.rfl _) (.cons (.rfl _) (.cons (.rfl _) (.cons (.rfl _) (.cons (.rfl _) .nil))))) (pb_qcmp opNe (pq_ix ixAny (pq_var 0) (pq_int)) (pq_nil))
        (ss_post [2] [1, 2, 3, 4] (ss_le (ss_cons (ds_asg 2 (pd_itm (pp_fld 0 (pp_var 0)) (pq_int)))
      (ss_cons (ds_if (pb_cmp opGt (pd_var 2) (pd_int))
        (ss_cons (ds_setL (pd_bin opFdiv (pd_var 2) (pd_var 1)) (pp_fld 0 (pp_var 0)) (pq_int))
      (ss_one (ds_ret (pd_bin opMod (pd_var 2) (pd_var 1)) (.cons (.rfl _) (.cons (.u _) (.cons (.u _) (.cons (.rfl _) (.cons (.rfl _) .nil))))))))
        (ss_nil))
      (ss_one (ds_drop (pd_popAt (pp_fld 0 (pp_var 0)) (pq_int)))))) (.cons (.rfl _) (.cons (.rfl _) (.cons (.u _) (.cons (.rfl _) (.cons (.rfl _) .nil))))))) (.cons (.rfl _) (.cons (.rfl _) (.cons (.rfl _) (.cons (.rfl _) (.cons (.rfl _) .nil)))))) (.cons (.rfl _) (.cons (.rfl _) (.cons (.rfl _) (.cons (.rfl _) (.cons (.rfl _) .nil))))))
      (ss_cons (ds_setR 2 (pd_bin opAdd (pd_q (pq_ix ixAny (pq_var 0) (pq_int))) (pd_int)) (pp_var 0))
      (ss_cons (ds_asg 3 (pd_bin opMod (pd_itm (pp_fld 1 (pp_var 0)) (pq_bin opMod (pq_ix ixAny (pq_var 0) (pq_int)) (pq_b1 clLen z_len bt_len (pq_ix ixAny (pq_var 0) (pq_int))))) (pd_int)))
      (ss_cons (ds_asg 4 (pd_bin opAdd (pd_bin opMul (pd_var 3) (pd_bin opAdd (pd_int) (pd_bin opMul (pd_int) (pd_q (pq_ix ixAny (pq_var 0) (pq_int)))))) (pd_int)))
      (ss_cons (ds_asg 4 (pd_bin opMod (pd_bin opAdd (pd_var 4) (pd_bin opMul (pd_bin opMul (pd_int) (pd_q (pq_ix ixAny (pq_var 0) (pq_int)))) (pd_q (pq_ix ixAny (pq_var 0) (pq_int))))) (pd_int)))
      (ss_one (ds_ret (pd_bin opMod (pd_bin opFdiv (pd_bin opMod (pd_bin opMul (pd_var 4) (pd_var 4)) (pd_int)) (pd_int)) (pd_var 1)) (.cons (.rfl _) (.cons (.u _) (.cons (.rfl _) (.cons (.u _) (.cons (.u _) .nil)))))))))))), hm, F.kp, b⟩
theorem cal__law_odd (c__law_draw : CalG P w K mg base 1 "_law_draw" [(.r [(.l .s), (.l .s), .s]), .s] .s F__law_draw) {f : Addr} {fd : FuncData} (F : L2.Fun K "_law_odd" "_law_odd" st__law_odd f fd) (hm : mg "_law_odd" = some (.ref f)) (b : Binds K fd ["_law_state_here"] []) : CalG P w K mg base 2 "_law_odd" [(.r [(.l .s), (.l .s), .s])] .s F__law_odd :=
  ⟨f, fd, ["_law_state_here"], fnG_dl (sf := S__law_odd) (mr := [(.r [(.l .s), (.l .s), .s]), .u]) (po := [0]) (r := 1) F sc__law_odd rfl rfl (.own (by decide) (.nil _ _)) (.inl rfl) (fun cdv A outer s H E _ _ _ =>
      ss_cons (ds_asg 1 (pd_frz (pd_lst (k := 19) .s (pl_cons (pd_none) (pl_cons (pd_bool) (pl_cons (pd_bool) (pl_cons (pd_neg (pd_int)) (pl_cons (pd_int) (pl_cons (pd_int) (pl_cons (pd_int) (pl_cons (pd_int) (pl_cons (pd_bin opPow (pd_int) (pd_int)) (pl_cons (pd_bin opAdd (pd_bin opPow (pd_int) (pd_int)) (pd_int)) (pl_cons (pd_bin opPow (pd_int) (pd_int)) (pl_cons (pd_str) (pl_cons (pd_str) (pl_cons (pd_str) (pl_cons (pd_tup (k := 0) (pl_nil)) (pl_cons (pd_frz (pd_lst (k := 0) .s (pl_nil))) (pl_cons (pd_dic0) (pl_cons (pd_tup (k := 1) (pl_cons (pd_int) (pl_nil))) (pl_cons (pd_frz (pd_lst (k := 1) .s (pl_cons (pd_int) (pl_nil)))) (pl_nil)))))))))))))))))))))))
      (ss_one (ds_ret (pd_ix ixAny (pd_bin opAdd (pd_var 1) (pd_frz (pd_lst (k := 5) .s (pl_cons (pd_tup (k := 2) (pl_cons (pd_int) (pl_cons (pd_int) (pl_nil)))) (pl_cons (pd_tup (k := 2) (pl_cons (pd_int) (pl_cons (pd_int) (pl_nil)))) (pl_cons (pd_tup (k := 1) (pl_cons (pd_tup (k := 2) (pl_cons (pd_int) (pl_cons (pd_int) (pl_nil)))) (pl_nil))) (pl_cons (pd_tup (k := 1) (pl_cons (pd_bool) (pl_nil))) (pl_cons (pd_dic1) (pl_nil))))))))) (pd_callL (kk := 0) (j := 0) c__law_draw (pl_lend 0 (pl_cons (pd_int) (pl_nil))))) (.cons (.rfl _) (.cons (.u _) .nil))))), hm, F.kp, b⟩
theorem cal__law_errors (v_TooLarge : ExcV P w K mg base 1 "TooLarge" ["bound"]) (v_Unplaced : ExcV P w K mg base 1 "Unplaced" ["lesson"]) (v_ShortList : ExcV P w K mg base 1 "ShortList" ["lesson"]) (v_BadOffer : ExcV P w K mg base 1 "BadOffer" ["value"]) (v_AlreadyHeld : ExcV P w K mg base 1 "AlreadyHeld" ["lesson"]) (v_TooManyOffers : ExcV P w K mg base 1 "TooManyOffers" ["bound"]) (v_TooFewHours : ExcV P w K mg base 1 "TooFewHours" ["degree"]) (v_TooManyLessons : ExcV P w K mg base 1 "TooManyLessons" ["bound"]) (v_NoSchedule : ExcV P w K mg base 1 "NoSchedule" ["value"]) (v_BadRoster : ExcV P w K mg base 1 "BadRoster" ["error"]) (v_BadList : ExcV P w K mg base 1 "BadList" ["value"]) (v_TooManyEdits : ExcV P w K mg base 1 "TooManyEdits" ["bound"]) (v_BatchFailed : ExcV P w K mg base 1 "BatchFailed" ["index"]) (v_BadText : ExcV P w K mg base 1 "BadText" ["index"]) (v_NoFreeHour : ExcV P w K mg base 1 "NoFreeHour" ["side", "person"]) (v_NothingToUndo : ExcVZ P w K mg "NothingToUndo") (v_HasCycle : ExcVZ P w K mg "HasCycle") (v_BadLists : ExcVZ P w K mg "BadLists") (v_BadBatch : ExcVZ P w K mg "BadBatch") (v_Busy : ExcVZ P w K mg "Busy") (v_NoLesson : ExcV P w K mg base 1 "NoLesson" ["value"]) (v_NoIndex : ExcV P w K mg base 1 "NoIndex" ["value"]) (v_NoVersion : ExcV P w K mg base 1 "NoVersion" ["value"]) (v_NoPerson : ExcV P w K mg base 1 "NoPerson" ["side", "value"]) {f : Addr} {fd : FuncData} (F : L2.Fun K "_law_errors" "_law_errors" st__law_errors f fd) (hm : mg "_law_errors" = some (.ref f)) (b : Binds K fd ["_law_value", "_law_other"] []) : CalG P w K mg base 3 "_law_errors" [.s, .s] (.l (.g (XvΦ mg))) F__law_errors :=
  ⟨f, fd, ["_law_value", "_law_other"], fnG_dl (sf := S__law_errors) (mr := [.u, .u, .u]) (po := []) (r := 1) F sc__law_errors rfl rfl (.stb rfl (.stb rfl (.nil _ _))) (.inr (nnx_seq (nnx_seq (nnx_seq (nnx_seq nnx_ret))))) (fun cdv A outer s H E _ _ _ =>
      ss_cons (ds_asg 2 (pd_lst (k := 5) (.g (XvΦ mg)) (pl_cons (pd_mkE ["bound"] v_TooLarge (pl_cons (pd_var 0) (pl_nil))) (pl_cons (pd_mkE ["lesson"] v_Unplaced (pl_cons (pd_var 0) (pl_nil))) (pl_cons (pd_mkE ["lesson"] v_ShortList (pl_cons (pd_var 0) (pl_nil))) (pl_cons (pd_mkE ["value"] v_BadOffer (pl_cons (pd_var 0) (pl_nil))) (pl_cons (pd_mkE ["lesson"] v_AlreadyHeld (pl_cons (pd_var 0) (pl_nil))) (pl_nil))))))))
      (ss_cons (ds_asg 2 (pd_catO (pd_mov 2) (pd_lst (k := 4) (.g (XvΦ mg)) (pl_cons (pd_mkE ["bound"] v_TooManyOffers (pl_cons (pd_var 0) (pl_nil))) (pl_cons (pd_mkE ["degree"] v_TooFewHours (pl_cons (pd_var 0) (pl_nil))) (pl_cons (pd_mkE ["bound"] v_TooManyLessons (pl_cons (pd_var 0) (pl_nil))) (pl_cons (pd_mkE ["value"] v_NoSchedule (pl_cons (pd_var 0) (pl_nil))) (pl_nil))))))))
      (ss_cons (ds_asg 2 (pd_catO (pd_mov 2) (pd_lst (k := 5) (.g (XvΦ mg)) (pl_cons (pd_mkE ["error"] v_BadRoster (pl_cons (pd_var 0) (pl_nil))) (pl_cons (pd_mkE ["value"] v_BadList (pl_cons (pd_var 0) (pl_nil))) (pl_cons (pd_mkE ["bound"] v_TooManyEdits (pl_cons (pd_var 0) (pl_nil))) (pl_cons (pd_mkE ["index"] v_BatchFailed (pl_cons (pd_var 0) (pl_nil))) (pl_cons (pd_mkE ["index"] v_BadText (pl_cons (pd_var 0) (pl_nil))) (pl_nil)))))))))
      (ss_cons (ds_asg 2 (pd_catO (pd_mov 2) (pd_lst (k := 6) (.g (XvΦ mg)) (pl_cons (pd_mkE ["side", "person"] v_NoFreeHour (pl_cons (pd_var 0) (pl_cons (pd_var 1) (pl_nil)))) (pl_cons (pd_mkZ v_NothingToUndo) (pl_cons (pd_mkZ v_HasCycle) (pl_cons (pd_mkZ v_BadLists) (pl_cons (pd_mkZ v_BadBatch) (pl_cons (pd_mkZ v_Busy) (pl_nil))))))))))
      (ss_one (ds_ret (pd_catO (pd_mov 2) (pd_lst (k := 4) (.g (XvΦ mg)) (pl_cons (pd_mkE ["value"] v_NoLesson (pl_cons (pd_var 0) (pl_nil))) (pl_cons (pd_mkE ["value"] v_NoIndex (pl_cons (pd_var 0) (pl_nil))) (pl_cons (pd_mkE ["value"] v_NoVersion (pl_cons (pd_var 0) (pl_nil))) (pl_cons (pd_mkE ["side", "value"] v_NoPerson (pl_cons (pd_var 0) (pl_cons (pd_var 1) (pl_nil)))) (pl_nil))))))) (.cons (.u _) (.cons (.u _) (.cons (.rfl _) .nil))))))))), hm, F.kp, b⟩
theorem cal__law_flags (z_isinstance : mg "isinstance" = none) {C_TooLarge : Addr} (g_TooLarge : mg "TooLarge" = some (.ref C_TooLarge)) {C_Unplaced : Addr} (g_Unplaced : mg "Unplaced" = some (.ref C_Unplaced)) {C_ShortList : Addr} (g_ShortList : mg "ShortList" = some (.ref C_ShortList)) {C_BadOffer : Addr} (g_BadOffer : mg "BadOffer" = some (.ref C_BadOffer)) {C_AlreadyHeld : Addr} (g_AlreadyHeld : mg "AlreadyHeld" = some (.ref C_AlreadyHeld)) {C_TooManyOffers : Addr} (g_TooManyOffers : mg "TooManyOffers" = some (.ref C_TooManyOffers)) {C_TooFewHours : Addr} (g_TooFewHours : mg "TooFewHours" = some (.ref C_TooFewHours)) {C_TooManyLessons : Addr} (g_TooManyLessons : mg "TooManyLessons" = some (.ref C_TooManyLessons)) {C_NoSchedule : Addr} (g_NoSchedule : mg "NoSchedule" = some (.ref C_NoSchedule)) {C_BadRoster : Addr} (g_BadRoster : mg "BadRoster" = some (.ref C_BadRoster)) {C_BadList : Addr} (g_BadList : mg "BadList" = some (.ref C_BadList)) {C_TooManyEdits : Addr} (g_TooManyEdits : mg "TooManyEdits" = some (.ref C_TooManyEdits)) {C_BatchFailed : Addr} (g_BatchFailed : mg "BatchFailed" = some (.ref C_BatchFailed)) {C_BadText : Addr} (g_BadText : mg "BadText" = some (.ref C_BadText)) {C_NoFreeHour : Addr} (g_NoFreeHour : mg "NoFreeHour" = some (.ref C_NoFreeHour)) {C_NothingToUndo : Addr} (g_NothingToUndo : mg "NothingToUndo" = some (.ref C_NothingToUndo)) {C_HasCycle : Addr} (g_HasCycle : mg "HasCycle" = some (.ref C_HasCycle)) {C_BadLists : Addr} (g_BadLists : mg "BadLists" = some (.ref C_BadLists)) {C_BadBatch : Addr} (g_BadBatch : mg "BadBatch" = some (.ref C_BadBatch)) {C_Busy : Addr} (g_Busy : mg "Busy" = some (.ref C_Busy)) {C_NoLesson : Addr} (g_NoLesson : mg "NoLesson" = some (.ref C_NoLesson)) {C_NoIndex : Addr} (g_NoIndex : mg "NoIndex" = some (.ref C_NoIndex)) {C_NoVersion : Addr} (g_NoVersion : mg "NoVersion" = some (.ref C_NoVersion)) {C_NoPerson : Addr} (g_NoPerson : mg "NoPerson" = some (.ref C_NoPerson)) (iv_TooLarge : IsV K mg rtv_TooLarge (.ref C_TooLarge)) (iv_Unplaced : IsV K mg rtv_Unplaced (.ref C_Unplaced)) (iv_ShortList : IsV K mg rtv_ShortList (.ref C_ShortList)) (iv_BadOffer : IsV K mg rtv_BadOffer (.ref C_BadOffer)) (iv_AlreadyHeld : IsV K mg rtv_AlreadyHeld (.ref C_AlreadyHeld)) (iv_TooManyOffers : IsV K mg rtv_TooManyOffers (.ref C_TooManyOffers)) (iv_TooFewHours : IsV K mg rtv_TooFewHours (.ref C_TooFewHours)) (iv_TooManyLessons : IsV K mg rtv_TooManyLessons (.ref C_TooManyLessons)) (iv_NoSchedule : IsV K mg rtv_NoSchedule (.ref C_NoSchedule)) (iv_BadRoster : IsV K mg rtv_BadRoster (.ref C_BadRoster)) (iv_BadList : IsV K mg rtv_BadList (.ref C_BadList)) (iv_TooManyEdits : IsV K mg rtv_TooManyEdits (.ref C_TooManyEdits)) (iv_BatchFailed : IsV K mg rtv_BatchFailed (.ref C_BatchFailed)) (iv_BadText : IsV K mg rtv_BadText (.ref C_BadText)) (iv_NoFreeHour : IsV K mg rtv_NoFreeHour (.ref C_NoFreeHour)) (iv_NothingToUndo : IsV K mg rtv_NothingToUndo (.ref C_NothingToUndo)) (iv_HasCycle : IsV K mg rtv_HasCycle (.ref C_HasCycle)) (iv_BadLists : IsV K mg rtv_BadLists (.ref C_BadLists)) (iv_BadBatch : IsV K mg rtv_BadBatch (.ref C_BadBatch)) (iv_Busy : IsV K mg rtv_Busy (.ref C_Busy)) (iv_NoLesson : IsV K mg rtv_NoLesson (.ref C_NoLesson)) (iv_NoIndex : IsV K mg rtv_NoIndex (.ref C_NoIndex)) (iv_NoVersion : IsV K mg rtv_NoVersion (.ref C_NoVersion)) (iv_NoPerson : IsV K mg rtv_NoPerson (.ref C_NoPerson)) {f : Addr} {fd : FuncData} (F : L2.Fun K "_law_flags" "_law_flags" st__law_flags f fd) (hm : mg "_law_flags" = some (.ref f)) (b : Binds K fd ["_law_e"] []) : CalG P w K mg base 1 "_law_flags" [(.g (XvΦ mg))] .s F__law_flags :=
  ⟨f, fd, ["_law_e"], fnG_dlO (sf := S__law_flags) (mr := [(.g (XvΦ mg)), .u]) (po := [0]) (r := 1) F sc__law_flags rfl rfl (.own (by decide) (.nil _ _)) (.inl rfl) (fun cdv A outer s H E _ _ _ =>
      ss_cons (ds_asg 1 (pd_frz (pd_lst (k := 4) .s (pl_cons (pd_isV (pd_varX 0) iv_TooLarge z_isinstance (fun i => by exact pe_glob (v := .ref C_TooLarge) rfl g_TooLarge rfl) (fun _ r => by exact r)) (pl_cons (pd_isV (pd_varX 0) iv_Unplaced z_isinstance (fun i => by exact pe_glob (v := .ref C_Unplaced) rfl g_Unplaced rfl) (fun _ r => by exact r)) (pl_cons (pd_isV (pd_varX 0) iv_ShortList z_isinstance (fun i => by exact pe_glob (v := .ref C_ShortList) rfl g_ShortList rfl) (fun _ r => by exact r)) (pl_cons (pd_isV (pd_varX 0) iv_BadOffer z_isinstance (fun i => by exact pe_glob (v := .ref C_BadOffer) rfl g_BadOffer rfl) (fun _ r => by exact r)) (pl_nil))))))))
      (ss_cons (ds_asg 1 (pd_bin opAdd (pd_var 1) (pd_frz (pd_lst (k := 3) .s (pl_cons (pd_isV (pd_varX 0) iv_AlreadyHeld z_isinstance (fun i => by exact pe_glob (v := .ref C_AlreadyHeld) rfl g_AlreadyHeld rfl) (fun _ r => by exact r)) (pl_cons (pd_isV (pd_varX 0) iv_TooManyOffers z_isinstance (fun i => by exact pe_glob (v := .ref C_TooManyOffers) rfl g_TooManyOffers rfl) (fun _ r => by exact r)) (pl_cons (pd_isV (pd_varX 0) iv_TooFewHours z_isinstance (fun i => by exact pe_glob (v := .ref C_TooFewHours) rfl g_TooFewHours rfl) (fun _ r => by exact r)) (pl_nil))))))))
      (ss_cons (ds_asg 1 (pd_bin opAdd (pd_var 1) (pd_frz (pd_lst (k := 3) .s (pl_cons (pd_isV (pd_varX 0) iv_TooManyLessons z_isinstance (fun i => by exact pe_glob (v := .ref C_TooManyLessons) rfl g_TooManyLessons rfl) (fun _ r => by exact r)) (pl_cons (pd_isV (pd_varX 0) iv_NoSchedule z_isinstance (fun i => by exact pe_glob (v := .ref C_NoSchedule) rfl g_NoSchedule rfl) (fun _ r => by exact r)) (pl_cons (pd_isV (pd_varX 0) iv_BadRoster z_isinstance (fun i => by exact pe_glob (v := .ref C_BadRoster) rfl g_BadRoster rfl) (fun _ r => by exact r)) (pl_nil))))))))
      (ss_cons (ds_asg 1 (pd_bin opAdd (pd_var 1) (pd_frz (pd_lst (k := 3) .s (pl_cons (pd_isV (pd_varX 0) iv_BadList z_isinstance (fun i => by exact pe_glob (v := .ref C_BadList) rfl g_BadList rfl) (fun _ r => by exact r)) (pl_cons (pd_isV (pd_varX 0) iv_TooManyEdits z_isinstance (fun i => by exact pe_glob (v := .ref C_TooManyEdits) rfl g_TooManyEdits rfl) (fun _ r => by exact r)) (pl_cons (pd_isV (pd_varX 0) iv_BatchFailed z_isinstance (fun i => by exact pe_glob (v := .ref C_BatchFailed) rfl g_BatchFailed rfl) (fun _ r => by exact r)) (pl_nil))))))))
      (ss_cons (ds_asg 1 (pd_bin opAdd (pd_var 1) (pd_frz (pd_lst (k := 3) .s (pl_cons (pd_isV (pd_varX 0) iv_BadText z_isinstance (fun i => by exact pe_glob (v := .ref C_BadText) rfl g_BadText rfl) (fun _ r => by exact r)) (pl_cons (pd_isV (pd_varX 0) iv_NoFreeHour z_isinstance (fun i => by exact pe_glob (v := .ref C_NoFreeHour) rfl g_NoFreeHour rfl) (fun _ r => by exact r)) (pl_cons (pd_isV (pd_varX 0) iv_NothingToUndo z_isinstance (fun i => by exact pe_glob (v := .ref C_NothingToUndo) rfl g_NothingToUndo rfl) (fun _ r => by exact r)) (pl_nil))))))))
      (ss_cons (ds_asg 1 (pd_bin opAdd (pd_var 1) (pd_frz (pd_lst (k := 4) .s (pl_cons (pd_isV (pd_varX 0) iv_HasCycle z_isinstance (fun i => by exact pe_glob (v := .ref C_HasCycle) rfl g_HasCycle rfl) (fun _ r => by exact r)) (pl_cons (pd_isV (pd_varX 0) iv_BadLists z_isinstance (fun i => by exact pe_glob (v := .ref C_BadLists) rfl g_BadLists rfl) (fun _ r => by exact r)) (pl_cons (pd_isV (pd_varX 0) iv_BadBatch z_isinstance (fun i => by exact pe_glob (v := .ref C_BadBatch) rfl g_BadBatch rfl) (fun _ r => by exact r)) (pl_cons (pd_isV (pd_varX 0) iv_Busy z_isinstance (fun i => by exact pe_glob (v := .ref C_Busy) rfl g_Busy rfl) (fun _ r => by exact r)) (pl_nil)))))))))
      (ss_cons (ds_asg 1 (pd_bin opAdd (pd_var 1) (pd_frz (pd_lst (k := 3) .s (pl_cons (pd_isV (pd_varX 0) iv_NoLesson z_isinstance (fun i => by exact pe_glob (v := .ref C_NoLesson) rfl g_NoLesson rfl) (fun _ r => by exact r)) (pl_cons (pd_isV (pd_varX 0) iv_NoIndex z_isinstance (fun i => by exact pe_glob (v := .ref C_NoIndex) rfl g_NoIndex rfl) (fun _ r => by exact r)) (pl_cons (pd_isV (pd_varX 0) iv_NoVersion z_isinstance (fun i => by exact pe_glob (v := .ref C_NoVersion) rfl g_NoVersion rfl) (fun _ r => by exact r)) (pl_nil))))))))
      (ss_one (ds_ret (pd_bin opAdd (pd_var 1) (pd_frz (pd_lst (k := 1) .s (pl_cons (pd_isV (pd_varX 0) iv_NoPerson z_isinstance (fun i => by exact pe_glob (v := .ref C_NoPerson) rfl g_NoPerson rfl) (fun _ r => by exact r)) (pl_nil))))) (.cons (.rfl _) (.cons (.u _) .nil))))))))))), hm, F.kp, b⟩
theorem cal__law_fields (v_TooLarge : ExcV P w K mg base 1 "TooLarge" ["bound"]) (v_Unplaced : ExcV P w K mg base 1 "Unplaced" ["lesson"]) (v_ShortList : ExcV P w K mg base 1 "ShortList" ["lesson"]) (v_BadOffer : ExcV P w K mg base 1 "BadOffer" ["value"]) (v_AlreadyHeld : ExcV P w K mg base 1 "AlreadyHeld" ["lesson"]) (v_TooManyOffers : ExcV P w K mg base 1 "TooManyOffers" ["bound"]) (v_TooFewHours : ExcV P w K mg base 1 "TooFewHours" ["degree"]) (v_TooManyLessons : ExcV P w K mg base 1 "TooManyLessons" ["bound"]) (v_NoSchedule : ExcV P w K mg base 1 "NoSchedule" ["value"]) (v_BadRoster : ExcV P w K mg base 1 "BadRoster" ["error"]) (v_BadList : ExcV P w K mg base 1 "BadList" ["value"]) (v_TooManyEdits : ExcV P w K mg base 1 "TooManyEdits" ["bound"]) (v_BatchFailed : ExcV P w K mg base 1 "BatchFailed" ["index"]) (v_BadText : ExcV P w K mg base 1 "BadText" ["index"]) (v_NoFreeHour : ExcV P w K mg base 1 "NoFreeHour" ["side", "person"]) (v_NoPerson : ExcV P w K mg base 1 "NoPerson" ["side", "value"]) (v_NoLesson : ExcV P w K mg base 1 "NoLesson" ["value"]) (v_NoIndex : ExcV P w K mg base 1 "NoIndex" ["value"]) (v_NoVersion : ExcV P w K mg base 1 "NoVersion" ["value"]) (hx_TooLarge_bound : ∀ D, mg "TooLarge" = some (.ref D) → XfC K D ∧ PySem.W.findIn K (.ref D) "bound" = some none) (hx_Unplaced_lesson : ∀ D, mg "Unplaced" = some (.ref D) → XfC K D ∧ PySem.W.findIn K (.ref D) "lesson" = some none) (hx_ShortList_lesson : ∀ D, mg "ShortList" = some (.ref D) → XfC K D ∧ PySem.W.findIn K (.ref D) "lesson" = some none) (hx_BadOffer_value : ∀ D, mg "BadOffer" = some (.ref D) → XfC K D ∧ PySem.W.findIn K (.ref D) "value" = some none) (hx_AlreadyHeld_lesson : ∀ D, mg "AlreadyHeld" = some (.ref D) → XfC K D ∧ PySem.W.findIn K (.ref D) "lesson" = some none) (hx_TooManyOffers_bound : ∀ D, mg "TooManyOffers" = some (.ref D) → XfC K D ∧ PySem.W.findIn K (.ref D) "bound" = some none) (hx_TooFewHours_degree : ∀ D, mg "TooFewHours" = some (.ref D) → XfC K D ∧ PySem.W.findIn K (.ref D) "degree" = some none) (hx_TooManyLessons_bound : ∀ D, mg "TooManyLessons" = some (.ref D) → XfC K D ∧ PySem.W.findIn K (.ref D) "bound" = some none) (hx_NoSchedule_value : ∀ D, mg "NoSchedule" = some (.ref D) → XfC K D ∧ PySem.W.findIn K (.ref D) "value" = some none) (hx_BadRoster_error : ∀ D, mg "BadRoster" = some (.ref D) → XfC K D ∧ PySem.W.findIn K (.ref D) "error" = some none) (hx_BadList_value : ∀ D, mg "BadList" = some (.ref D) → XfC K D ∧ PySem.W.findIn K (.ref D) "value" = some none) (hx_TooManyEdits_bound : ∀ D, mg "TooManyEdits" = some (.ref D) → XfC K D ∧ PySem.W.findIn K (.ref D) "bound" = some none) (hx_BatchFailed_index : ∀ D, mg "BatchFailed" = some (.ref D) → XfC K D ∧ PySem.W.findIn K (.ref D) "index" = some none) (hx_BadText_index : ∀ D, mg "BadText" = some (.ref D) → XfC K D ∧ PySem.W.findIn K (.ref D) "index" = some none) (hx_NoFreeHour_side : ∀ D, mg "NoFreeHour" = some (.ref D) → XfC K D ∧ PySem.W.findIn K (.ref D) "side" = some none) (hx_NoPerson_side : ∀ D, mg "NoPerson" = some (.ref D) → XfC K D ∧ PySem.W.findIn K (.ref D) "side" = some none) (hx_NoLesson_value : ∀ D, mg "NoLesson" = some (.ref D) → XfC K D ∧ PySem.W.findIn K (.ref D) "value" = some none) (hx_NoIndex_value : ∀ D, mg "NoIndex" = some (.ref D) → XfC K D ∧ PySem.W.findIn K (.ref D) "value" = some none) (hx_NoVersion_value : ∀ D, mg "NoVersion" = some (.ref D) → XfC K D ∧ PySem.W.findIn K (.ref D) "value" = some none) {f : Addr} {fd : FuncData} (F : L2.Fun K "_law_fields" "_law_fields" st__law_fields f fd) (hm : mg "_law_fields" = some (.ref f)) (b : Binds K fd ["_law_value", "_law_other"] []) : CalG P w K mg base 3 "_law_fields" [.s, .s] .s F__law_fields :=
  ⟨f, fd, ["_law_value", "_law_other"], fnG_dl (sf := S__law_fields) (mr := [.u, .u, .u]) (po := []) (r := 1) F sc__law_fields rfl rfl (.stb rfl (.stb rfl (.nil _ _))) (.inl rfl) (fun cdv A outer s H E _ _ _ =>
      ss_cons (ds_asg 2 (pd_frz (pd_lst (k := 4) .s (pl_cons (pd_fldV ["bound"] v_TooLarge hx_TooLarge_bound (pl_cons (pd_var 0) (pl_nil))) (pl_cons (pd_fldV ["lesson"] v_Unplaced hx_Unplaced_lesson (pl_cons (pd_var 0) (pl_nil))) (pl_cons (pd_fldV ["lesson"] v_ShortList hx_ShortList_lesson (pl_cons (pd_var 0) (pl_nil))) (pl_cons (pd_fldV ["value"] v_BadOffer hx_BadOffer_value (pl_cons (pd_var 0) (pl_nil))) (pl_nil))))))))
      (ss_cons (ds_asg 2 (pd_bin opAdd (pd_var 2) (pd_frz (pd_lst (k := 3) .s (pl_cons (pd_fldV ["lesson"] v_AlreadyHeld hx_AlreadyHeld_lesson (pl_cons (pd_var 0) (pl_nil))) (pl_cons (pd_fldV ["bound"] v_TooManyOffers hx_TooManyOffers_bound (pl_cons (pd_var 0) (pl_nil))) (pl_cons (pd_fldV ["degree"] v_TooFewHours hx_TooFewHours_degree (pl_cons (pd_var 0) (pl_nil))) (pl_nil))))))))
      (ss_cons (ds_asg 2 (pd_bin opAddL (pd_var 2) (pd_frz (pd_lst (k := 3) .s (pl_cons (pd_fldV ["bound"] v_TooManyLessons hx_TooManyLessons_bound (pl_cons (pd_var 0) (pl_nil))) (pl_cons (pd_fldV ["value"] v_NoSchedule hx_NoSchedule_value (pl_cons (pd_var 0) (pl_nil))) (pl_cons (pd_fldV ["error"] v_BadRoster hx_BadRoster_error (pl_cons (pd_var 0) (pl_nil))) (pl_nil))))))))
      (ss_cons (ds_drop (pd_app 2 (pd_fldV ["value"] v_BadList hx_BadList_value (pl_cons (pd_var 0) (pl_nil)))))
      (ss_cons (ds_asg 2 (pd_bin opAdd (pd_frzVar 2) (pd_frz (pd_lst (k := 3) .s (pl_cons (pd_fldV ["bound"] v_TooManyEdits hx_TooManyEdits_bound (pl_cons (pd_var 0) (pl_nil))) (pl_cons (pd_fldV ["index"] v_BatchFailed hx_BatchFailed_index (pl_cons (pd_var 0) (pl_nil))) (pl_cons (pd_fldV ["index"] v_BadText hx_BadText_index (pl_cons (pd_var 0) (pl_nil))) (pl_nil))))))))
      (ss_cons (ds_asg 2 (pd_bin opAddL (pd_var 2) (pd_frz (pd_lst (k := 3) .s (pl_cons (pd_fldV ["side", "person"] v_NoFreeHour hx_NoFreeHour_side (pl_cons (pd_var 0) (pl_cons (pd_var 1) (pl_nil)))) (pl_cons (pd_fldV ["side", "value"] v_NoPerson hx_NoPerson_side (pl_cons (pd_var 0) (pl_cons (pd_var 1) (pl_nil)))) (pl_cons (pd_fldV ["value"] v_NoLesson hx_NoLesson_value (pl_cons (pd_var 0) (pl_nil))) (pl_nil))))))))
      (ss_one (ds_ret (pd_bin opAdd (pd_frzVar 2) (pd_frz (pd_lst (k := 2) .s (pl_cons (pd_fldV ["value"] v_NoIndex hx_NoIndex_value (pl_cons (pd_var 0) (pl_nil))) (pl_cons (pd_fldV ["value"] v_NoVersion hx_NoVersion_value (pl_cons (pd_var 0) (pl_nil))) (pl_nil)))))) (.cons (.u _) (.cons (.u _) (.cons (.u _) .nil))))))))))), hm, F.kp, b⟩
theorem cal__law_same (z_repr : mg "repr" = none) {f : Addr} {fd : FuncData} (F : L2.Fun K "_law_same" "_law_same" st__law_same f fd) (hm : mg "_law_same" = some (.ref f)) (b : Binds K fd ["_law_found", "_law_due"] []) : CalG P w K mg base 1 "_law_same" [.s, .s] .s F__law_same :=
  ⟨f, fd, ["_law_found", "_law_due"], fnG_dl (sf := S__law_same) (mr := [.u, .u]) (po := []) (r := 0) F sc__law_same rfl rfl (.stb rfl (.stb rfl (.nil _ _))) (.inl rfl) (fun cdv A outer s H E _ _ _ =>
      ss_one (ds_ret (pd_cmp opEq (pd_b1 clRepr z_repr bt_repr (pd_var 0)) (pd_b1 clRepr z_repr bt_repr (pd_var 1))) (.cons (.u _) (.cons (.u _) .nil)))), hm, F.kp, b⟩
theorem fn_law (c__law_state : CalG P w K mg base 1 "_law_state" [.q] (.r [(.l .s), (.l .s), .s]) F__law_state) (c__law_odd : CalG P w K mg base 2 "_law_odd" [(.r [(.l .s), (.l .s), .s])] .s F__law_odd) (c__law_errors : CalG P w K mg base 3 "_law_errors" [.s, .s] (.l (.g (XvΦ mg))) F__law_errors) (c__law_flags : CalG P w K mg base 1 "_law_flags" [(.g (XvΦ mg))] .s F__law_flags) (c__law_fields : CalG P w K mg base 3 "_law_fields" [.s, .s] .s F__law_fields) (c__law_same : CalG P w K mg base 1 "_law_same" [.s, .s] .s F__law_same) (z_range : mg "range" = none) (z_isinstance : mg "isinstance" = none) (z_ValueError : mg "ValueError" = none) (z_LookupError : mg "LookupError" = none) {t_MAX_PEOPLE : Tok} (g_MAX_PEOPLE : mg "MAX_PEOPLE" = some (.int 8 t_MAX_PEOPLE)) {t_MAX_LESSONS : Tok} (g_MAX_LESSONS : mg "MAX_LESSONS" = some (.int 16 t_MAX_LESSONS)) {t_LAST_HOUR : Tok} (g_LAST_HOUR : mg "LAST_HOUR" = some (.int 1000000 t_LAST_HOUR)) {t_MAX_LIST : Tok} (g_MAX_LIST : mg "MAX_LIST" = some (.int 20 t_MAX_LIST)) {t_MAX_OFFERED : Tok} (g_MAX_OFFERED : mg "MAX_OFFERED" = some (.int 12 t_MAX_OFFERED)) {t_MAX_OFFERS : Tok} (g_MAX_OFFERS : mg "MAX_OFFERS" = some (.int 100 t_MAX_OFFERS)) {t_MAX_PRODUCT : Tok} (g_MAX_PRODUCT : mg "MAX_PRODUCT" = some (.int 20000 t_MAX_PRODUCT)) {t_MAX_EDITS : Tok} (g_MAX_EDITS : mg "MAX_EDITS" = some (.int 60 t_MAX_EDITS)) {t_BATCH : Tok} (g_BATCH : mg "BATCH" = some (.int 20 t_BATCH)) {C_ListError : Addr} (g_ListError : mg "ListError" = some (.ref C_ListError)) (v_NoFreeHour : ExcV P w K mg base 1 "NoFreeHour" ["side", "person"]) (v_NoPerson : ExcV P w K mg base 1 "NoPerson" ["side", "value"]) (iv_ListError : IsV K mg rtv_ListError (.ref C_ListError)) (iv_ValueError : IsV K mg rtv_ValueError (.type "ValueError")) (iv_LookupError : IsV K mg rtv_LookupError (.type "LookupError")) (hx_NoFreeHour_person : ∀ D, mg "NoFreeHour" = some (.ref D) → XfC K D ∧ PySem.W.findIn K (.ref D) "person" = some none) (hx_NoPerson_value : ∀ D, mg "NoPerson" = some (.ref D) → XfC K D ∧ PySem.W.findIn K (.ref D) "value" = some none) {f : Addr} {fd : FuncData} (F : L2.Fun K "law" "law" st_law f fd) : FnG P w K mg base 4 f fd ["_law_script"] (spD K [.q] .s F_law) :=
  fnG_dl (sf := S_law) (mr := [.u, .u, .u, .u, .u, .u, .u, .u, .u, .u, .u]) (po := []) (r := 10) F sc_law rfl rfl (.stb rfl (.nil _ _)) (.inl rfl) (fun cdv A outer s H E _ _ _ =>
      ss_cons (ds_asg 1 (pd_callL (kk := 0) (j := 0) c__law_state (pl_lend 0 (pl_nil))))
      (ss_cons (ds_for [.q, (.r [(.l .s), (.l .s), .s]), .u, .u, .u, .u, .u, .u, .u, .u, .u] (pi_fg [2, 3, 4, 5, 6, 7] (pi_r1 z_range (pd_int)) (.cons (.rfl _) (.cons (.rfl _) (.cons (.rfl _) (.cons (.rfl _) (.cons (.rfl _) (.cons (.rfl _) (.cons (.rfl _) (.cons (.rfl _) (.cons (.rfl _) (.cons (.rfl _) (.cons (.rfl _) .nil)))))))))))) (.cons (.rfl _) (.cons (.rfl _) (.cons (.rfl _) (.cons (.rfl _) (.cons (.rfl _) (.cons (.rfl _) (.cons (.rfl _) (.cons (.rfl _) (.cons (.rfl _) (.cons (.rfl _) (.cons (.rfl _) .nil))))))))))) (pg_nm 2)
        (ss_post [2, 3, 4, 5, 6, 7] [0, 1, 2, 3, 4, 5, 6, 7, 8, 9, 10] (ss_le (ss_cons (ds_tg (pd_tup (k := 2) (pl_cons (pd_callL (kk := 0) (j := 1) c__law_odd (pl_lend 1 (pl_nil))) (pl_cons (pd_callL (kk := 0) (j := 1) c__law_odd (pl_lend 1 (pl_nil))) (pl_nil)))) (pg_tp (k := 2) (pgs_cn (pg_nm 3) (pgs_cn (pg_nm 4) (pgs_nl)))))
      (ss_cons (ds_asg 5 (pd_call c__law_errors (pl_cons (pd_var 3) (pl_cons (pd_var 4) (pl_nil)))))
      (ss_cons (ds_for [.q, (.r [(.l .s), (.l .s), .s]), .s, .s, .s, (.l (.g (XvΦ mg))), .u, .u, .u, .u, .u] (pi_fg [6, 7] (pi_r1 z_range (pd_int)) (.cons (.rfl _) (.cons (.rfl _) (.cons (.rfl _) (.cons (.rfl _) (.cons (.rfl _) (.cons (.rfl _) (.cons (.rfl _) (.cons (.rfl _) (.cons (.rfl _) (.cons (.rfl _) (.cons (.rfl _) .nil)))))))))))) (.cons (.rfl _) (.cons (.rfl _) (.cons (.rfl _) (.cons (.rfl _) (.cons (.rfl _) (.cons (.rfl _) (.cons (.rfl _) (.cons (.rfl _) (.cons (.rfl _) (.cons (.rfl _) (.cons (.rfl _) .nil))))))))))) (pg_nm 6 (hj := by first | decide | simp [DL.hideM]))
        (ss_post [6, 7] [0, 1, 2, 3, 4, 5, 6, 7, 8, 9, 10] (ss_le (ss_cons (ds_asg 7 (pd_lst (k := 2) .s (pl_cons (pd_isV (pd_itmX 5 (pd_var 6)) iv_ListError z_isinstance (fun i => by exact pe_glob (v := .ref C_ListError) rfl g_ListError rfl) (fun _ r => by exact r)) (pl_cons (pd_isV (pd_itmX 5 (pd_var 6)) iv_ValueError z_isinstance (fun i => by exact pe_bltn (v := .ty "ValueError") rfl z_ValueError PyProof.Rows.Boot.«ValueError» rfl) (fun _ r => by exact r)) (pl_nil)))))
      (ss_cons (ds_drop (pd_app 7 (pd_isV (pd_itmX 5 (pd_var 6)) iv_LookupError z_isinstance (fun i => by exact pe_bltn (v := .ty "LookupError") rfl z_LookupError PyProof.Rows.Boot.«LookupError» rfl) (fun _ r => by exact r))))
      (ss_one (ds_if (pb_w (pbw_or (pb_cmp opNe (pd_call c__law_flags (pl_cons (pd_itmX 5 (pd_var 6)) (pl_nil))) (pd_frz (pd_lc [("_law_j", 10)] (pi_r1 z_range (pd_int)) (pg_nm 10 (hj := by first | decide | simp [DL.hideM])) (pts_no) (pd_cmp opEq (pd_var 10) (pd_var 6))))) (pbw_or1 (pb_thaw [.q, .s, .s, .s, .s, .u, .s, .s, .u, .u, .u] (.cons (.rfl _) (.cons (.s _ rfl) (.cons (.rfl _) (.cons (.rfl _) (.cons (.rfl _) (.cons (.u _) (.cons (.rfl _) (.cons (.s _ rfl) (.cons (.rfl _) (.cons (.rfl _) (.cons (.rfl _) .nil))))))))))) (pureb_t (pure_e2 pure_var (pure_lst (purel_cons (pure_e2 pure_var pure_c) (purel_cons (pure_e2 pure_var pure_c) (purel_cons (pure_e2 pure_var pure_c) purel_nil)))))) (pb_cmp opNe (pd_var 7) (pd_frz (pd_lst (k := 3) .s (pl_cons (pd_cmp opLt (pd_var 6) (pd_int)) (pl_cons (pd_cmp opLt (pd_var 6) (pd_int)) (pl_cons (pd_cmp opGe (pd_var 6) (pd_int)) (pl_nil))))))) (hs := List.forall_mem_cons.mpr ⟨rfl, List.forall_mem_cons.mpr ⟨rfl, List.forall_mem_cons.mpr ⟨rfl, List.forall_mem_cons.mpr ⟨rfl, List.forall_mem_cons.mpr ⟨rfl, List.forall_mem_cons.mpr ⟨rfl, List.forall_mem_cons.mpr ⟨rfl, List.forall_mem_cons.mpr ⟨rfl, List.forall_mem_cons.mpr ⟨rfl, List.forall_mem_cons.mpr ⟨rfl, List.forall_mem_cons.mpr ⟨rfl, fun _ h => nomatch h⟩⟩⟩⟩⟩⟩⟩⟩⟩⟩⟩)))))
        (ss_one (ds_ret (pd_bool) (.cons (.u _) (.cons (.u _) (.cons (.u _) (.cons (.u _) (.cons (.u _) (.cons (.u _) (.cons (.u _) (.cons (.u _) (.cons (.rfl _) (.cons (.rfl _) (.cons (.rfl _) .nil)))))))))))))
        (ss_nil))))) (.cons (.rfl _) (.cons (.rfl _) (.cons (.rfl _) (.cons (.rfl _) (.cons (.rfl _) (.cons (.rfl _) (.cons (.u _) (.cons (.u _) (.cons (.rfl _) (.cons (.rfl _) (.cons (.rfl _) .nil))))))))))))) (.cons (.rfl _) (.cons (.rfl _) (.cons (.rfl _) (.cons (.rfl _) (.cons (.rfl _) (.cons (.rfl _) (.cons (.rfl _) (.cons (.rfl _) (.cons (.rfl _) (.cons (.rfl _) (.cons (.rfl _) .nil))))))))))))
      (ss_cons (ds_if (pb_cmp opNe (pd_frz (pd_lc [("_law_field", 9)] (pi_seq (pd_call c__law_fields (pl_cons (pd_var 3) (pl_cons (pd_var 4) (pl_nil))))) (pg_nm 9 (hj := by first | decide | simp [DL.hideM])) (pts_if (pb_not (pb_of (pd_call c__law_same (pl_cons (pd_var 9) (pl_cons (pd_var 3) (pl_nil))))))) (pd_var 9))) (pd_frz (pd_lst (k := 0) .s (pl_nil))))
        (ss_one (ds_ret (pd_bool) (.cons (.u _) (.cons (.u _) (.cons (.u _) (.cons (.u _) (.cons (.u _) (.cons (.u _) (.cons (.rfl _) (.cons (.rfl _) (.cons (.rfl _) (.cons (.rfl _) (.cons (.rfl _) .nil)))))))))))))
        (ss_nil))
      (ss_one (ds_if (pb_not (pb_of (pd_call c__law_same (pl_cons (pd_frz (pd_lst (k := 2) .s (pl_cons (pd_fldV ["side", "person"] v_NoFreeHour hx_NoFreeHour_person (pl_cons (pd_var 3) (pl_cons (pd_var 4) (pl_nil)))) (pl_cons (pd_fldV ["side", "value"] v_NoPerson hx_NoPerson_value (pl_cons (pd_var 3) (pl_cons (pd_var 4) (pl_nil)))) (pl_nil))))) (pl_cons (pd_frz (pd_lst (k := 2) .s (pl_cons (pd_var 4) (pl_cons (pd_var 4) (pl_nil))))) (pl_nil))))))
        (ss_one (ds_ret (pd_bool) (.cons (.u _) (.cons (.u _) (.cons (.u _) (.cons (.u _) (.cons (.u _) (.cons (.u _) (.cons (.rfl _) (.cons (.rfl _) (.cons (.rfl _) (.cons (.rfl _) (.cons (.rfl _) .nil)))))))))))))
        (ss_nil))))))) (.cons (.rfl _) (.cons (.rfl _) (.cons (.u _) (.cons (.u _) (.cons (.u _) (.cons (.u _) (.cons (.rfl _) (.cons (.rfl _) (.cons (.rfl _) (.cons (.rfl _) (.cons (.rfl _) .nil))))))))))))) (.cons (.rfl _) (.cons (.rfl _) (.cons (.rfl _) (.cons (.rfl _) (.cons (.rfl _) (.cons (.rfl _) (.cons (.rfl _) (.cons (.rfl _) (.cons (.rfl _) (.cons (.rfl _) (.cons (.rfl _) .nil))))))))))))
      (ss_cons (ds_asg 8 (pd_frz (pd_lst (k := 7) .s (pl_cons (pd_gint g_MAX_PEOPLE) (pl_cons (pd_gint g_MAX_LESSONS) (pl_cons (pd_gint g_LAST_HOUR) (pl_cons (pd_gint g_MAX_LIST) (pl_cons (pd_gint g_MAX_OFFERED) (pl_cons (pd_gint g_MAX_OFFERS) (pl_cons (pd_gint g_MAX_PRODUCT) (pl_nil)))))))))))
      (ss_one (ds_ret (pd_call c__law_same (pl_cons (pd_bin opAdd (pd_var 8) (pd_frz (pd_lst (k := 2) .s (pl_cons (pd_gint g_MAX_EDITS) (pl_cons (pd_gint g_BATCH) (pl_nil)))))) (pl_cons (pd_frz (pd_lst (k := 9) .s (pl_cons (pd_int) (pl_cons (pd_int) (pl_cons (pd_bin opPow (pd_int) (pd_int)) (pl_cons (pd_int) (pl_cons (pd_int) (pl_cons (pd_int) (pl_cons (pd_int) (pl_cons (pd_int) (pl_cons (pd_int) (pl_nil)))))))))))) (pl_nil)))) (.cons (.u _) (.cons (.u _) (.cons (.rfl _) (.cons (.rfl _) (.cons (.rfl _) (.cons (.rfl _) (.cons (.rfl _) (.cons (.rfl _) (.cons (.u _) (.cons (.rfl _) (.cons (.rfl _) .nil))))))))))))))))
end
end LK
namespace LK
open PySem PySem.Spec PyProof.Rows L2 DL
set_option maxHeartbeats 0
theorem facts {l : PySem.W.OpenLaw} {w : World} {K : PySem.W.Frag} {h : Heap} {mg : Str → Option Value} {fa : Addr} (X : K.In h) (G : h.Ns mainGlobals mg) (hfa : mg "law" = some (.ref fa)) (c : He.SaysX [] hdefs [] [] hex w h K) :
    ∃ fd : FuncData, (∀ (s : Shared) (v : Value), BindsTo s fd ⟨[v], []⟩ [("_law_script", v)]) ∧ ∀ base : Heap, K.In base → base.Ns mainGlobals mg → FnG l.prog w K mg base 4 fa fd ["_law_script"] (spD K [.q] .s F_law) := by
  have r0 : hex K = true := c.more
  have p0 := and1 r0
  have r1 := and2 r0
  have s0_0 : hex_0 K = true := p0
  have h0 := and1 s0_0
  have s0_1 := and2 s0_0
  have h1 := and1 s0_1
  have s0_2 := and2 s0_1
  have h2 := and1 s0_2
  have s0_3 := and2 s0_2
  have h3 := and1 s0_3
  have s0_4 := and2 s0_3
  have h4 := and1 s0_4
  have s0_5 := and2 s0_4
  have h5 := and1 s0_5
  have s0_6 := and2 s0_5
  have h6 := and1 s0_6
  have s0_7 := and2 s0_6
  have p1 := and1 r1
  have r2 := and2 r1
  have s1_0 : hex_1 K = true := p1
  have h7 := and1 s1_0
  have s1_1 := and2 s1_0
  have h8 := and1 s1_1
  have s1_2 := and2 s1_1
  have h9 := and1 s1_2
  have s1_3 := and2 s1_2
  have h10 := and1 s1_3
  have s1_4 := and2 s1_3
  have h11 := and1 s1_4
  have s1_5 := and2 s1_4
  have h12 := and1 s1_5
  have s1_6 := and2 s1_5
  have h13 := and1 s1_6
  have s1_7 := and2 s1_6
  have a1 := fact_at h0 0
  obtain ⟨fd1, F1⟩ := fun_ofG c.t.d 0 (st := st__law_state)
  have a2 := fact_at h0 1
  obtain ⟨fd2, F2⟩ := fun_ofG c.t.d 1 (st := st__law_draw)
  have a3 := fact_at h0 2
  obtain ⟨fd3, F3⟩ := fun_ofG c.t.d 2 (st := st__law_odd)
  have a4 := fact_at h0 3
  obtain ⟨fd4, F4⟩ := fun_ofG c.t.d 3 (st := st__law_errors)
  have a5 := fact_at h0 4
  obtain ⟨fd5, F5⟩ := fun_ofG c.t.d 4 (st := st__law_flags)
  have a6 := fact_at h0 5
  obtain ⟨fd6, F6⟩ := fun_ofG c.t.d 5 (st := st__law_fields)
  have a7 := fact_at h0 6
  obtain ⟨fd7, F7⟩ := fun_ofG c.t.d 6 (st := st__law_same)
  have a8 := fact_at h0 7
  obtain ⟨fd8, F8⟩ := fun_ofG c.t.d 7 (st := st_law)
  have xa_TooLarge := fact_at h0 8
  have xe_TooLarge := fact_at h0 9
  have xt_TooLarge := fact_at h0 10
  have xh_TooLarge := all_at h0 11
  have xa_Unplaced := fact_at h0 12
  have xe_Unplaced := fact_at h0 13
  have xt_Unplaced := fact_at h0 14
  have xh_Unplaced := all_at h0 15
  have xa_ShortList := fact_at h0 16
  have xe_ShortList := fact_at h0 17
  have xt_ShortList := fact_at h0 18
  have xh_ShortList := all_at h0 19
  have xa_BadOffer := fact_at h0 20
  have xe_BadOffer := fact_at h0 21
  have xt_BadOffer := fact_at h0 22
  have xh_BadOffer := all_at h0 23
  have xa_AlreadyHeld := fact_at h0 24
  have xe_AlreadyHeld := fact_at h0 25
  have xt_AlreadyHeld := fact_at h0 26
  have xh_AlreadyHeld := all_at h0 27
  have xa_TooManyOffers := fact_at h0 28
  have xe_TooManyOffers := fact_at h0 29
  have xt_TooManyOffers := fact_at h1 0
  have xh_TooManyOffers := all_at h1 1
  have xa_TooFewHours := fact_at h1 2
  have xe_TooFewHours := fact_at h1 3
  have xt_TooFewHours := fact_at h1 4
  have xh_TooFewHours := all_at h1 5
  have xa_TooManyLessons := fact_at h1 6
  have xe_TooManyLessons := fact_at h1 7
  have xt_TooManyLessons := fact_at h1 8
  have xh_TooManyLessons := all_at h1 9
  have xa_NoSchedule := fact_at h1 10
  have xe_NoSchedule := fact_at h1 11
  have xt_NoSchedule := fact_at h1 12
  have xh_NoSchedule := all_at h1 13
  have xa_BadRoster := fact_at h1 14
  have xe_BadRoster := fact_at h1 15
  have xt_BadRoster := fact_at h1 16
  have xh_BadRoster := all_at h1 17
  have xa_BadList := fact_at h1 18
  have xe_BadList := fact_at h1 19
  have xt_BadList := fact_at h1 20
  have xh_BadList := all_at h1 21
  have xa_TooManyEdits := fact_at h1 22
  have xe_TooManyEdits := fact_at h1 23
  have xt_TooManyEdits := fact_at h1 24
  have xh_TooManyEdits := all_at h1 25
  have xa_BatchFailed := fact_at h1 26
  have xe_BatchFailed := fact_at h1 27
  have xt_BatchFailed := fact_at h1 28
  have xh_BatchFailed := all_at h1 29
  have xa_BadText := fact_at h2 0
  have xe_BadText := fact_at h2 1
  have xt_BadText := fact_at h2 2
  have xh_BadText := all_at h2 3
  have xa_NoFreeHour := fact_at h2 4
  have xe_NoFreeHour := fact_at h2 5
  have xt_NoFreeHour := fact_at h2 6
  have xh_NoFreeHour := all_at h2 7
  have xa_NothingToUndo := fact_at h2 8
  have xe_NothingToUndo := fact_at h2 9
  have xt_NothingToUndo := fact_at h2 10
  have xh_NothingToUndo := all_at h2 11
  have xa_HasCycle := fact_at h2 12
  have xe_HasCycle := fact_at h2 13
  have xt_HasCycle := fact_at h2 14
  have xh_HasCycle := all_at h2 15
  have xa_BadLists := fact_at h2 16
  have xe_BadLists := fact_at h2 17
  have xt_BadLists := fact_at h2 18
  have xh_BadLists := all_at h2 19
  have xa_BadBatch := fact_at h2 20
  have xe_BadBatch := fact_at h2 21
  have xt_BadBatch := fact_at h2 22
  have xh_BadBatch := all_at h2 23
  have xa_Busy := fact_at h2 24
  have xe_Busy := fact_at h2 25
  have xt_Busy := fact_at h2 26
  have xh_Busy := all_at h2 27
  have xa_NoLesson := fact_at h2 28
  have xe_NoLesson := fact_at h2 29
  have xt_NoLesson := fact_at h3 0
  have xh_NoLesson := all_at h3 1
  have xa_NoIndex := fact_at h3 2
  have xe_NoIndex := fact_at h3 3
  have xt_NoIndex := fact_at h3 4
  have xh_NoIndex := all_at h3 5
  have xa_NoVersion := fact_at h3 6
  have xe_NoVersion := fact_at h3 7
  have xt_NoVersion := fact_at h3 8
  have xh_NoVersion := all_at h3 9
  have xa_NoPerson := fact_at h3 10
  have xe_NoPerson := fact_at h3 11
  have xt_NoPerson := fact_at h3 12
  have xh_NoPerson := all_at h3 13
  have xa_ListError := fact_at h3 14
  have xe_ListError := fact_at h3 15
  have xt_ListError := fact_at h3 16
  have xh_ListError := all_at h3 17
  have xz1 := fact_at h3 18
  have xz2 := fact_at h3 19
  have xl_TooLarge := all_at h3 20
  have xy_TooLarge := all_at h3 21
  have xs_TooLarge := fact_at h3 22
  have xg_TooLarge := fact_at h3 23
  have xq_TooLarge := fact_at h3 24
  have xb_TooLarge := fact_at h3 25
  have xm_TooLarge := fact_at h3 26
  have xp_TooLarge := all_at h3 27
  have xn_TooLarge_bound := fact_at h3 28
  have xi_TooLarge := fact_at h3 29
  have xj_TooLarge := fact_at h4 0
  obtain ⟨fdI_TooLarge, FI_TooLarge⟩ := fun_ofM c.t.d 8 (st := ini_TooLarge)
  have xl_Unplaced := all_at h4 1
  have xy_Unplaced := all_at h4 2
  have xs_Unplaced := fact_at h4 3
  have xg_Unplaced := fact_at h4 4
  have xq_Unplaced := fact_at h4 5
  have xb_Unplaced := fact_at h4 6
  have xm_Unplaced := fact_at h4 7
  have xp_Unplaced := all_at h4 8
  have xn_Unplaced_lesson := fact_at h4 9
  have xi_Unplaced := fact_at h4 10
  have xj_Unplaced := fact_at h4 11
  obtain ⟨fdI_Unplaced, FI_Unplaced⟩ := fun_ofM c.t.d 9 (st := ini_Unplaced)
  have xl_ShortList := all_at h4 12
  have xy_ShortList := all_at h4 13
  have xs_ShortList := fact_at h4 14
  have xg_ShortList := fact_at h4 15
  have xq_ShortList := fact_at h4 16
  have xb_ShortList := fact_at h4 17
  have xm_ShortList := fact_at h4 18
  have xp_ShortList := all_at h4 19
  have xn_ShortList_lesson := fact_at h4 20
  have xi_ShortList := fact_at h4 21
  have xj_ShortList := fact_at h4 22
  obtain ⟨fdI_ShortList, FI_ShortList⟩ := fun_ofM c.t.d 10 (st := ini_ShortList)
  have xl_BadOffer := all_at h4 23
  have xy_BadOffer := all_at h4 24
  have xs_BadOffer := fact_at h4 25
  have xg_BadOffer := fact_at h4 26
  have xq_BadOffer := fact_at h4 27
  have xb_BadOffer := fact_at h4 28
  have xm_BadOffer := fact_at h4 29
  have xp_BadOffer := all_at h5 0
  have xn_BadOffer_value := fact_at h5 1
  have xi_BadOffer := fact_at h5 2
  have xj_BadOffer := fact_at h5 3
  obtain ⟨fdI_BadOffer, FI_BadOffer⟩ := fun_ofM c.t.d 11 (st := ini_BadOffer)
  have xl_AlreadyHeld := all_at h5 4
  have xy_AlreadyHeld := all_at h5 5
  have xs_AlreadyHeld := fact_at h5 6
  have xg_AlreadyHeld := fact_at h5 7
  have xq_AlreadyHeld := fact_at h5 8
  have xb_AlreadyHeld := fact_at h5 9
  have xm_AlreadyHeld := fact_at h5 10
  have xp_AlreadyHeld := all_at h5 11
  have xn_AlreadyHeld_lesson := fact_at h5 12
  have xi_AlreadyHeld := fact_at h5 13
  have xj_AlreadyHeld := fact_at h5 14
  obtain ⟨fdI_AlreadyHeld, FI_AlreadyHeld⟩ := fun_ofM c.t.d 12 (st := ini_AlreadyHeld)
  have xl_TooManyOffers := all_at h5 15
  have xy_TooManyOffers := all_at h5 16
  have xs_TooManyOffers := fact_at h5 17
  have xg_TooManyOffers := fact_at h5 18
  have xq_TooManyOffers := fact_at h5 19
  have xb_TooManyOffers := fact_at h5 20
  have xm_TooManyOffers := fact_at h5 21
  have xp_TooManyOffers := all_at h5 22
  have xn_TooManyOffers_bound := fact_at h5 23
  have xi_TooManyOffers := fact_at h5 24
  have xj_TooManyOffers := fact_at h5 25
  obtain ⟨fdI_TooManyOffers, FI_TooManyOffers⟩ := fun_ofM c.t.d 13 (st := ini_TooManyOffers)
  have xl_TooFewHours := all_at h5 26
  have xy_TooFewHours := all_at h5 27
  have xs_TooFewHours := fact_at h5 28
  have xg_TooFewHours := fact_at h5 29
  have xq_TooFewHours := fact_at h6 0
  have xb_TooFewHours := fact_at h6 1
  have xm_TooFewHours := fact_at h6 2
  have xp_TooFewHours := all_at h6 3
  have xn_TooFewHours_degree := fact_at h6 4
  have xi_TooFewHours := fact_at h6 5
  have xj_TooFewHours := fact_at h6 6
  obtain ⟨fdI_TooFewHours, FI_TooFewHours⟩ := fun_ofM c.t.d 14 (st := ini_TooFewHours)
  have xl_TooManyLessons := all_at h6 7
  have xy_TooManyLessons := all_at h6 8
  have xs_TooManyLessons := fact_at h6 9
  have xg_TooManyLessons := fact_at h6 10
  have xq_TooManyLessons := fact_at h6 11
  have xb_TooManyLessons := fact_at h6 12
  have xm_TooManyLessons := fact_at h6 13
  have xp_TooManyLessons := all_at h6 14
  have xn_TooManyLessons_bound := fact_at h6 15
  have xi_TooManyLessons := fact_at h6 16
  have xj_TooManyLessons := fact_at h6 17
  obtain ⟨fdI_TooManyLessons, FI_TooManyLessons⟩ := fun_ofM c.t.d 15 (st := ini_TooManyLessons)
  have xl_NoSchedule := all_at h6 18
  have xy_NoSchedule := all_at h6 19
  have xs_NoSchedule := fact_at h6 20
  have xg_NoSchedule := fact_at h6 21
  have xq_NoSchedule := fact_at h6 22
  have xb_NoSchedule := fact_at h6 23
  have xm_NoSchedule := fact_at h6 24
  have xp_NoSchedule := all_at h6 25
  have xn_NoSchedule_value := fact_at h6 26
  have xi_NoSchedule := fact_at h6 27
  have xj_NoSchedule := fact_at h6 28
  obtain ⟨fdI_NoSchedule, FI_NoSchedule⟩ := fun_ofM c.t.d 16 (st := ini_NoSchedule)
  have xl_BadRoster := all_at h6 29
  have xy_BadRoster := all_at h7 0
  have xs_BadRoster := fact_at h7 1
  have xg_BadRoster := fact_at h7 2
  have xq_BadRoster := fact_at h7 3
  have xb_BadRoster := fact_at h7 4
  have xm_BadRoster := fact_at h7 5
  have xp_BadRoster := all_at h7 6
  have xn_BadRoster_error := fact_at h7 7
  have xi_BadRoster := fact_at h7 8
  have xj_BadRoster := fact_at h7 9
  obtain ⟨fdI_BadRoster, FI_BadRoster⟩ := fun_ofM c.t.d 17 (st := ini_BadRoster)
  have xl_BadList := all_at h7 10
  have xy_BadList := all_at h7 11
  have xs_BadList := fact_at h7 12
  have xg_BadList := fact_at h7 13
  have xq_BadList := fact_at h7 14
  have xb_BadList := fact_at h7 15
  have xm_BadList := fact_at h7 16
  have xp_BadList := all_at h7 17
  have xn_BadList_value := fact_at h7 18
  have xi_BadList := fact_at h7 19
  have xj_BadList := fact_at h7 20
  obtain ⟨fdI_BadList, FI_BadList⟩ := fun_ofM c.t.d 18 (st := ini_BadList)
  have xl_TooManyEdits := all_at h7 21
  have xy_TooManyEdits := all_at h7 22
  have xs_TooManyEdits := fact_at h7 23
  have xg_TooManyEdits := fact_at h7 24
  have xq_TooManyEdits := fact_at h7 25
  have xb_TooManyEdits := fact_at h7 26
  have xm_TooManyEdits := fact_at h7 27
  have xp_TooManyEdits := all_at h7 28
  have xn_TooManyEdits_bound := fact_at h7 29
  have xi_TooManyEdits := fact_at h8 0
  have xj_TooManyEdits := fact_at h8 1
  obtain ⟨fdI_TooManyEdits, FI_TooManyEdits⟩ := fun_ofM c.t.d 19 (st := ini_TooManyEdits)
  have xl_BatchFailed := all_at h8 2
  have xy_BatchFailed := all_at h8 3
  have xs_BatchFailed := fact_at h8 4
  have xg_BatchFailed := fact_at h8 5
  have xq_BatchFailed := fact_at h8 6
  have xb_BatchFailed := fact_at h8 7
  have xm_BatchFailed := fact_at h8 8
  have xp_BatchFailed := all_at h8 9
  have xn_BatchFailed_index := fact_at h8 10
  have xi_BatchFailed := fact_at h8 11
  have xj_BatchFailed := fact_at h8 12
  obtain ⟨fdI_BatchFailed, FI_BatchFailed⟩ := fun_ofM c.t.d 20 (st := ini_BatchFailed)
  have xl_BadText := all_at h8 13
  have xy_BadText := all_at h8 14
  have xs_BadText := fact_at h8 15
  have xg_BadText := fact_at h8 16
  have xq_BadText := fact_at h8 17
  have xb_BadText := fact_at h8 18
  have xm_BadText := fact_at h8 19
  have xp_BadText := all_at h8 20
  have xn_BadText_index := fact_at h8 21
  have xi_BadText := fact_at h8 22
  have xj_BadText := fact_at h8 23
  obtain ⟨fdI_BadText, FI_BadText⟩ := fun_ofM c.t.d 21 (st := ini_BadText)
  have xl_NoFreeHour := all_at h8 24
  have xy_NoFreeHour := all_at h8 25
  have xs_NoFreeHour := fact_at h8 26
  have xg_NoFreeHour := fact_at h8 27
  have xq_NoFreeHour := fact_at h8 28
  have xb_NoFreeHour := fact_at h8 29
  have xm_NoFreeHour := fact_at h9 0
  have xp_NoFreeHour := all_at h9 1
  have xn_NoFreeHour_side := fact_at h9 2
  have xn_NoFreeHour_person := fact_at h9 3
  have xi_NoFreeHour := fact_at h9 4
  have xj_NoFreeHour := fact_at h9 5
  obtain ⟨fdI_NoFreeHour, FI_NoFreeHour⟩ := fun_ofM c.t.d 22 (st := ini_NoFreeHour)
  have xo_NothingToUndo := all_at h9 6
  have xg_NothingToUndo := fact_at h9 7
  have xq_NothingToUndo := fact_at h9 8
  have xb_NothingToUndo := fact_at h9 9
  have xm_NothingToUndo := fact_at h9 10
  have xp_NothingToUndo := all_at h9 11
  have xo_HasCycle := all_at h9 12
  have xg_HasCycle := fact_at h9 13
  have xq_HasCycle := fact_at h9 14
  have xb_HasCycle := fact_at h9 15
  have xm_HasCycle := fact_at h9 16
  have xp_HasCycle := all_at h9 17
  have xo_BadLists := all_at h9 18
  have xg_BadLists := fact_at h9 19
  have xq_BadLists := fact_at h9 20
  have xb_BadLists := fact_at h9 21
  have xm_BadLists := fact_at h9 22
  have xp_BadLists := all_at h9 23
  have xo_BadBatch := all_at h9 24
  have xg_BadBatch := fact_at h9 25
  have xq_BadBatch := fact_at h9 26
  have xb_BadBatch := fact_at h9 27
  have xm_BadBatch := fact_at h9 28
  have xp_BadBatch := all_at h9 29
  have xo_Busy := all_at h10 0
  have xg_Busy := fact_at h10 1
  have xq_Busy := fact_at h10 2
  have xb_Busy := fact_at h10 3
  have xm_Busy := fact_at h10 4
  have xp_Busy := all_at h10 5
  have xl_NoLesson := all_at h10 6
  have xy_NoLesson := fact_at h10 7
  have xs_NoLesson := fact_at h10 8
  have xg_NoLesson := fact_at h10 9
  have xq_NoLesson := fact_at h10 10
  have xb_NoLesson := fact_at h10 11
  have xm_NoLesson := fact_at h10 12
  have xp_NoLesson := all_at h10 13
  have xn_NoLesson_value := fact_at h10 14
  have xi_NoLesson := fact_at h10 15
  have xj_NoLesson := fact_at h10 16
  obtain ⟨fdI_NoLesson, FI_NoLesson⟩ := fun_ofM c.t.d 23 (st := ini_NoLesson)
  have xl_NoIndex := all_at h10 17
  have xy_NoIndex := fact_at h10 18
  have xs_NoIndex := fact_at h10 19
  have xg_NoIndex := fact_at h10 20
  have xq_NoIndex := fact_at h10 21
  have xb_NoIndex := fact_at h10 22
  have xm_NoIndex := fact_at h10 23
  have xp_NoIndex := all_at h10 24
  have xn_NoIndex_value := fact_at h10 25
  have xi_NoIndex := fact_at h10 26
  have xj_NoIndex := fact_at h10 27
  obtain ⟨fdI_NoIndex, FI_NoIndex⟩ := fun_ofM c.t.d 24 (st := ini_NoIndex)
  have xl_NoVersion := all_at h10 28
  have xy_NoVersion := fact_at h10 29
  have xs_NoVersion := fact_at h11 0
  have xg_NoVersion := fact_at h11 1
  have xq_NoVersion := fact_at h11 2
  have xb_NoVersion := fact_at h11 3
  have xm_NoVersion := fact_at h11 4
  have xp_NoVersion := all_at h11 5
  have xn_NoVersion_value := fact_at h11 6
  have xi_NoVersion := fact_at h11 7
  have xj_NoVersion := fact_at h11 8
  obtain ⟨fdI_NoVersion, FI_NoVersion⟩ := fun_ofM c.t.d 25 (st := ini_NoVersion)
  have xl_NoPerson := all_at h11 9
  have xy_NoPerson := fact_at h11 10
  have xs_NoPerson := fact_at h11 11
  have xg_NoPerson := fact_at h11 12
  have xq_NoPerson := fact_at h11 13
  have xb_NoPerson := fact_at h11 14
  have xm_NoPerson := fact_at h11 15
  have xp_NoPerson := all_at h11 16
  have xn_NoPerson_side := fact_at h11 17
  have xn_NoPerson_value := fact_at h11 18
  have xi_NoPerson := fact_at h11 19
  have xj_NoPerson := fact_at h11 20
  obtain ⟨fdI_NoPerson, FI_NoPerson⟩ := fun_ofM c.t.d 26 (st := ini_NoPerson)
  have bv_TooLarge := all_at h11 21
  have bv_Unplaced := all_at h11 22
  have bv_ShortList := all_at h11 23
  have bv_BadOffer := all_at h11 24
  have bv_AlreadyHeld := all_at h11 25
  have bv_TooManyOffers := all_at h11 26
  have bv_TooFewHours := all_at h11 27
  have bv_TooManyLessons := all_at h11 28
  have bv_NoSchedule := all_at h11 29
  have bv_BadRoster := all_at h12 0
  have bv_BadList := all_at h12 1
  have bv_TooManyEdits := all_at h12 2
  have bv_BatchFailed := all_at h12 3
  have bv_BadText := all_at h12 4
  have bv_NoFreeHour := all_at h12 5
  have bv_NothingToUndo := all_at h12 6
  have bv_HasCycle := all_at h12 7
  have bv_BadLists := all_at h12 8
  have bv_BadBatch := all_at h12 9
  have bv_Busy := all_at h12 10
  have bv_NoLesson := all_at h12 11
  have bv_NoIndex := all_at h12 12
  have bv_NoVersion := all_at h12 13
  have bv_NoPerson := all_at h12 14
  have bv_ListError := all_at h12 15
  have bv_ValueError := all_at h12 16
  have bv_LookupError := all_at h12 17
  have be_x := all_at h12 18
  have z_abs := fact_at h12 19
  have z_len := fact_at h12 20
  have z_isinstance := fact_at h12 21
  have z_repr := fact_at h12 22
  have z_range := fact_at h12 23
  have z_ValueError := fact_at h12 24
  have z_LookupError := fact_at h12 25
  have g_MAX_PEOPLE := (ints_at h12 26).choose_spec
  have g_MAX_LESSONS := (ints_at h12 27).choose_spec
  have g_LAST_HOUR := (ints_at h12 28).choose_spec
  have g_MAX_LIST := (ints_at h12 29).choose_spec
  have g_MAX_OFFERED := (ints_at h13 0).choose_spec
  have g_MAX_OFFERS := (ints_at h13 1).choose_spec
  have g_MAX_PRODUCT := (ints_at h13 2).choose_spec
  have g_MAX_EDITS := (ints_at h13 3).choose_spec
  have g_BATCH := (ints_at h13 4).choose_spec
  have e := hfa.symm.trans (PySem.W.mg_of X G a8)
  cases e
  obtain ⟨oc, od, kV, dc, pm, an, cd, ct, osl, rfl, lkL, cdL⟩ := F8.ex
  refine ⟨PySem.W.fnOf "law" "law" (defArgs st_law) (defBody st_law) (defScope st_law) .none kV dc pm an cd ct, fun s v => .of_eq rfl, fun base _ _ => ?_⟩
  have y_abs := PySem.W.mg_none_of X G z_abs
  have y_len := PySem.W.mg_none_of X G z_len
  have y_isinstance := PySem.W.mg_none_of X G z_isinstance
  have y_repr := PySem.W.mg_none_of X G z_repr
  have y_range := PySem.W.mg_none_of X G z_range
  have y_ValueError := PySem.W.mg_none_of X G z_ValueError
  have y_LookupError := PySem.W.mg_none_of X G z_LookupError
  have h_MAX_PEOPLE := PySem.W.mg_of X G g_MAX_PEOPLE
  have h_MAX_LESSONS := PySem.W.mg_of X G g_MAX_LESSONS
  have h_LAST_HOUR := PySem.W.mg_of X G g_LAST_HOUR
  have h_MAX_LIST := PySem.W.mg_of X G g_MAX_LIST
  have h_MAX_OFFERED := PySem.W.mg_of X G g_MAX_OFFERED
  have h_MAX_OFFERS := PySem.W.mg_of X G g_MAX_OFFERS
  have h_MAX_PRODUCT := PySem.W.mg_of X G g_MAX_PRODUCT
  have h_MAX_EDITS := PySem.W.mg_of X G g_MAX_EDITS
  have h_BATCH := PySem.W.mg_of X G g_BATCH
  have h_TooLarge := PySem.W.mg_of X G xa_TooLarge
  have h_Unplaced := PySem.W.mg_of X G xa_Unplaced
  have h_ShortList := PySem.W.mg_of X G xa_ShortList
  have h_BadOffer := PySem.W.mg_of X G xa_BadOffer
  have h_AlreadyHeld := PySem.W.mg_of X G xa_AlreadyHeld
  have h_TooManyOffers := PySem.W.mg_of X G xa_TooManyOffers
  have h_TooFewHours := PySem.W.mg_of X G xa_TooFewHours
  have h_TooManyLessons := PySem.W.mg_of X G xa_TooManyLessons
  have h_NoSchedule := PySem.W.mg_of X G xa_NoSchedule
  have h_BadRoster := PySem.W.mg_of X G xa_BadRoster
  have h_BadList := PySem.W.mg_of X G xa_BadList
  have h_TooManyEdits := PySem.W.mg_of X G xa_TooManyEdits
  have h_BatchFailed := PySem.W.mg_of X G xa_BatchFailed
  have h_BadText := PySem.W.mg_of X G xa_BadText
  have h_NoFreeHour := PySem.W.mg_of X G xa_NoFreeHour
  have h_NothingToUndo := PySem.W.mg_of X G xa_NothingToUndo
  have h_HasCycle := PySem.W.mg_of X G xa_HasCycle
  have h_BadLists := PySem.W.mg_of X G xa_BadLists
  have h_BadBatch := PySem.W.mg_of X G xa_BadBatch
  have h_Busy := PySem.W.mg_of X G xa_Busy
  have h_NoLesson := PySem.W.mg_of X G xa_NoLesson
  have h_NoIndex := PySem.W.mg_of X G xa_NoIndex
  have h_NoVersion := PySem.W.mg_of X G xa_NoVersion
  have h_NoPerson := PySem.W.mg_of X G xa_NoPerson
  have h_ListError := PySem.W.mg_of X G xa_ListError
  have O_TooLarge : OexC K (A_TooLarge K) := oexc_of xl_TooLarge xy_TooLarge xs_TooLarge xe_TooLarge xt_TooLarge xp_TooLarge
  have E_TooLarge : ExcC K (A_TooLarge K) := ⟨xg_TooLarge, xq_TooLarge, xe_TooLarge, xh_TooLarge, xb_TooLarge, xz1, xz2, xm_TooLarge⟩
  have V_TooLarge : XfC K (A_TooLarge K) := ⟨xg_TooLarge, xq_TooLarge, xe_TooLarge, xh_TooLarge⟩
  have bI_TooLarge := bnd2 (p1 := "self") (p2 := "bound") FI_TooLarge
  have T_TooLarge : ExcT l.prog w K mg base 1 "TooLarge" ["bound"] := ⟨(A_TooLarge K), (He.ma K (A_TooLarge K) "__init__"), _, _, O_TooLarge, h_TooLarge, xi_TooLarge, xj_TooLarge, init1 FI_TooLarge sci_TooLarge rfl O_TooLarge xn_TooLarge_bound (by first | exact Or.inl rfl | exact Or.inr (Or.inl rfl) | exact Or.inr (Or.inr rfl)) (by first | exact Or.inl rfl | exact Or.inr (Or.inl rfl) | exact Or.inr (Or.inr rfl)), bI_TooLarge⟩
  have O_Unplaced : OexC K (A_Unplaced K) := oexc_of xl_Unplaced xy_Unplaced xs_Unplaced xe_Unplaced xt_Unplaced xp_Unplaced
  have E_Unplaced : ExcC K (A_Unplaced K) := ⟨xg_Unplaced, xq_Unplaced, xe_Unplaced, xh_Unplaced, xb_Unplaced, xz1, xz2, xm_Unplaced⟩
  have V_Unplaced : XfC K (A_Unplaced K) := ⟨xg_Unplaced, xq_Unplaced, xe_Unplaced, xh_Unplaced⟩
  have bI_Unplaced := bnd2 (p1 := "self") (p2 := "lesson") FI_Unplaced
  have T_Unplaced : ExcT l.prog w K mg base 1 "Unplaced" ["lesson"] := ⟨(A_Unplaced K), (He.ma K (A_Unplaced K) "__init__"), _, _, O_Unplaced, h_Unplaced, xi_Unplaced, xj_Unplaced, init1 FI_Unplaced sci_Unplaced rfl O_Unplaced xn_Unplaced_lesson (by first | exact Or.inl rfl | exact Or.inr (Or.inl rfl) | exact Or.inr (Or.inr rfl)) (by first | exact Or.inl rfl | exact Or.inr (Or.inl rfl) | exact Or.inr (Or.inr rfl)), bI_Unplaced⟩
  have O_ShortList : OexC K (A_ShortList K) := oexc_of xl_ShortList xy_ShortList xs_ShortList xe_ShortList xt_ShortList xp_ShortList
  have E_ShortList : ExcC K (A_ShortList K) := ⟨xg_ShortList, xq_ShortList, xe_ShortList, xh_ShortList, xb_ShortList, xz1, xz2, xm_ShortList⟩
  have V_ShortList : XfC K (A_ShortList K) := ⟨xg_ShortList, xq_ShortList, xe_ShortList, xh_ShortList⟩
  have bI_ShortList := bnd2 (p1 := "self") (p2 := "lesson") FI_ShortList
  have T_ShortList : ExcT l.prog w K mg base 1 "ShortList" ["lesson"] := ⟨(A_ShortList K), (He.ma K (A_ShortList K) "__init__"), _, _, O_ShortList, h_ShortList, xi_ShortList, xj_ShortList, init1 FI_ShortList sci_ShortList rfl O_ShortList xn_ShortList_lesson (by first | exact Or.inl rfl | exact Or.inr (Or.inl rfl) | exact Or.inr (Or.inr rfl)) (by first | exact Or.inl rfl | exact Or.inr (Or.inl rfl) | exact Or.inr (Or.inr rfl)), bI_ShortList⟩
  have O_BadOffer : OexC K (A_BadOffer K) := oexc_of xl_BadOffer xy_BadOffer xs_BadOffer xe_BadOffer xt_BadOffer xp_BadOffer
  have E_BadOffer : ExcC K (A_BadOffer K) := ⟨xg_BadOffer, xq_BadOffer, xe_BadOffer, xh_BadOffer, xb_BadOffer, xz1, xz2, xm_BadOffer⟩
  have V_BadOffer : XfC K (A_BadOffer K) := ⟨xg_BadOffer, xq_BadOffer, xe_BadOffer, xh_BadOffer⟩
  have bI_BadOffer := bnd2 (p1 := "self") (p2 := "value") FI_BadOffer
  have T_BadOffer : ExcT l.prog w K mg base 1 "BadOffer" ["value"] := ⟨(A_BadOffer K), (He.ma K (A_BadOffer K) "__init__"), _, _, O_BadOffer, h_BadOffer, xi_BadOffer, xj_BadOffer, init1 FI_BadOffer sci_BadOffer rfl O_BadOffer xn_BadOffer_value (by first | exact Or.inl rfl | exact Or.inr (Or.inl rfl) | exact Or.inr (Or.inr rfl)) (by first | exact Or.inl rfl | exact Or.inr (Or.inl rfl) | exact Or.inr (Or.inr rfl)), bI_BadOffer⟩
  have O_AlreadyHeld : OexC K (A_AlreadyHeld K) := oexc_of xl_AlreadyHeld xy_AlreadyHeld xs_AlreadyHeld xe_AlreadyHeld xt_AlreadyHeld xp_AlreadyHeld
  have E_AlreadyHeld : ExcC K (A_AlreadyHeld K) := ⟨xg_AlreadyHeld, xq_AlreadyHeld, xe_AlreadyHeld, xh_AlreadyHeld, xb_AlreadyHeld, xz1, xz2, xm_AlreadyHeld⟩
  have V_AlreadyHeld : XfC K (A_AlreadyHeld K) := ⟨xg_AlreadyHeld, xq_AlreadyHeld, xe_AlreadyHeld, xh_AlreadyHeld⟩
  have bI_AlreadyHeld := bnd2 (p1 := "self") (p2 := "lesson") FI_AlreadyHeld
  have T_AlreadyHeld : ExcT l.prog w K mg base 1 "AlreadyHeld" ["lesson"] := ⟨(A_AlreadyHeld K), (He.ma K (A_AlreadyHeld K) "__init__"), _, _, O_AlreadyHeld, h_AlreadyHeld, xi_AlreadyHeld, xj_AlreadyHeld, init1 FI_AlreadyHeld sci_AlreadyHeld rfl O_AlreadyHeld xn_AlreadyHeld_lesson (by first | exact Or.inl rfl | exact Or.inr (Or.inl rfl) | exact Or.inr (Or.inr rfl)) (by first | exact Or.inl rfl | exact Or.inr (Or.inl rfl) | exact Or.inr (Or.inr rfl)), bI_AlreadyHeld⟩
  have O_TooManyOffers : OexC K (A_TooManyOffers K) := oexc_of xl_TooManyOffers xy_TooManyOffers xs_TooManyOffers xe_TooManyOffers xt_TooManyOffers xp_TooManyOffers
  have E_TooManyOffers : ExcC K (A_TooManyOffers K) := ⟨xg_TooManyOffers, xq_TooManyOffers, xe_TooManyOffers, xh_TooManyOffers, xb_TooManyOffers, xz1, xz2, xm_TooManyOffers⟩
  have V_TooManyOffers : XfC K (A_TooManyOffers K) := ⟨xg_TooManyOffers, xq_TooManyOffers, xe_TooManyOffers, xh_TooManyOffers⟩
  have bI_TooManyOffers := bnd2 (p1 := "self") (p2 := "bound") FI_TooManyOffers
  have T_TooManyOffers : ExcT l.prog w K mg base 1 "TooManyOffers" ["bound"] := ⟨(A_TooManyOffers K), (He.ma K (A_TooManyOffers K) "__init__"), _, _, O_TooManyOffers, h_TooManyOffers, xi_TooManyOffers, xj_TooManyOffers, init1 FI_TooManyOffers sci_TooManyOffers rfl O_TooManyOffers xn_TooManyOffers_bound (by first | exact Or.inl rfl | exact Or.inr (Or.inl rfl) | exact Or.inr (Or.inr rfl)) (by first | exact Or.inl rfl | exact Or.inr (Or.inl rfl) | exact Or.inr (Or.inr rfl)), bI_TooManyOffers⟩
  have O_TooFewHours : OexC K (A_TooFewHours K) := oexc_of xl_TooFewHours xy_TooFewHours xs_TooFewHours xe_TooFewHours xt_TooFewHours xp_TooFewHours
  have E_TooFewHours : ExcC K (A_TooFewHours K) := ⟨xg_TooFewHours, xq_TooFewHours, xe_TooFewHours, xh_TooFewHours, xb_TooFewHours, xz1, xz2, xm_TooFewHours⟩
  have V_TooFewHours : XfC K (A_TooFewHours K) := ⟨xg_TooFewHours, xq_TooFewHours, xe_TooFewHours, xh_TooFewHours⟩
  have bI_TooFewHours := bnd2 (p1 := "self") (p2 := "degree") FI_TooFewHours
  have T_TooFewHours : ExcT l.prog w K mg base 1 "TooFewHours" ["degree"] := ⟨(A_TooFewHours K), (He.ma K (A_TooFewHours K) "__init__"), _, _, O_TooFewHours, h_TooFewHours, xi_TooFewHours, xj_TooFewHours, init1 FI_TooFewHours sci_TooFewHours rfl O_TooFewHours xn_TooFewHours_degree (by first | exact Or.inl rfl | exact Or.inr (Or.inl rfl) | exact Or.inr (Or.inr rfl)) (by first | exact Or.inl rfl | exact Or.inr (Or.inl rfl) | exact Or.inr (Or.inr rfl)), bI_TooFewHours⟩
  have O_TooManyLessons : OexC K (A_TooManyLessons K) := oexc_of xl_TooManyLessons xy_TooManyLessons xs_TooManyLessons xe_TooManyLessons xt_TooManyLessons xp_TooManyLessons
  have E_TooManyLessons : ExcC K (A_TooManyLessons K) := ⟨xg_TooManyLessons, xq_TooManyLessons, xe_TooManyLessons, xh_TooManyLessons, xb_TooManyLessons, xz1, xz2, xm_TooManyLessons⟩
  have V_TooManyLessons : XfC K (A_TooManyLessons K) := ⟨xg_TooManyLessons, xq_TooManyLessons, xe_TooManyLessons, xh_TooManyLessons⟩
  have bI_TooManyLessons := bnd2 (p1 := "self") (p2 := "bound") FI_TooManyLessons
  have T_TooManyLessons : ExcT l.prog w K mg base 1 "TooManyLessons" ["bound"] := ⟨(A_TooManyLessons K), (He.ma K (A_TooManyLessons K) "__init__"), _, _, O_TooManyLessons, h_TooManyLessons, xi_TooManyLessons, xj_TooManyLessons, init1 FI_TooManyLessons sci_TooManyLessons rfl O_TooManyLessons xn_TooManyLessons_bound (by first | exact Or.inl rfl | exact Or.inr (Or.inl rfl) | exact Or.inr (Or.inr rfl)) (by first | exact Or.inl rfl | exact Or.inr (Or.inl rfl) | exact Or.inr (Or.inr rfl)), bI_TooManyLessons⟩
  have O_NoSchedule : OexC K (A_NoSchedule K) := oexc_of xl_NoSchedule xy_NoSchedule xs_NoSchedule xe_NoSchedule xt_NoSchedule xp_NoSchedule
  have E_NoSchedule : ExcC K (A_NoSchedule K) := ⟨xg_NoSchedule, xq_NoSchedule, xe_NoSchedule, xh_NoSchedule, xb_NoSchedule, xz1, xz2, xm_NoSchedule⟩
  have V_NoSchedule : XfC K (A_NoSchedule K) := ⟨xg_NoSchedule, xq_NoSchedule, xe_NoSchedule, xh_NoSchedule⟩
  have bI_NoSchedule := bnd2 (p1 := "self") (p2 := "value") FI_NoSchedule
  have T_NoSchedule : ExcT l.prog w K mg base 1 "NoSchedule" ["value"] := ⟨(A_NoSchedule K), (He.ma K (A_NoSchedule K) "__init__"), _, _, O_NoSchedule, h_NoSchedule, xi_NoSchedule, xj_NoSchedule, init1 FI_NoSchedule sci_NoSchedule rfl O_NoSchedule xn_NoSchedule_value (by first | exact Or.inl rfl | exact Or.inr (Or.inl rfl) | exact Or.inr (Or.inr rfl)) (by first | exact Or.inl rfl | exact Or.inr (Or.inl rfl) | exact Or.inr (Or.inr rfl)), bI_NoSchedule⟩
  have O_BadRoster : OexC K (A_BadRoster K) := oexc_of xl_BadRoster xy_BadRoster xs_BadRoster xe_BadRoster xt_BadRoster xp_BadRoster
  have E_BadRoster : ExcC K (A_BadRoster K) := ⟨xg_BadRoster, xq_BadRoster, xe_BadRoster, xh_BadRoster, xb_BadRoster, xz1, xz2, xm_BadRoster⟩
  have V_BadRoster : XfC K (A_BadRoster K) := ⟨xg_BadRoster, xq_BadRoster, xe_BadRoster, xh_BadRoster⟩
  have bI_BadRoster := bnd2 (p1 := "self") (p2 := "error") FI_BadRoster
  have T_BadRoster : ExcT l.prog w K mg base 1 "BadRoster" ["error"] := ⟨(A_BadRoster K), (He.ma K (A_BadRoster K) "__init__"), _, _, O_BadRoster, h_BadRoster, xi_BadRoster, xj_BadRoster, init1 FI_BadRoster sci_BadRoster rfl O_BadRoster xn_BadRoster_error (by first | exact Or.inl rfl | exact Or.inr (Or.inl rfl) | exact Or.inr (Or.inr rfl)) (by first | exact Or.inl rfl | exact Or.inr (Or.inl rfl) | exact Or.inr (Or.inr rfl)), bI_BadRoster⟩
  have O_BadList : OexC K (A_BadList K) := oexc_of xl_BadList xy_BadList xs_BadList xe_BadList xt_BadList xp_BadList
  have E_BadList : ExcC K (A_BadList K) := ⟨xg_BadList, xq_BadList, xe_BadList, xh_BadList, xb_BadList, xz1, xz2, xm_BadList⟩
  have V_BadList : XfC K (A_BadList K) := ⟨xg_BadList, xq_BadList, xe_BadList, xh_BadList⟩
  have bI_BadList := bnd2 (p1 := "self") (p2 := "value") FI_BadList
  have T_BadList : ExcT l.prog w K mg base 1 "BadList" ["value"] := ⟨(A_BadList K), (He.ma K (A_BadList K) "__init__"), _, _, O_BadList, h_BadList, xi_BadList, xj_BadList, init1 FI_BadList sci_BadList rfl O_BadList xn_BadList_value (by first | exact Or.inl rfl | exact Or.inr (Or.inl rfl) | exact Or.inr (Or.inr rfl)) (by first | exact Or.inl rfl | exact Or.inr (Or.inl rfl) | exact Or.inr (Or.inr rfl)), bI_BadList⟩
  have O_TooManyEdits : OexC K (A_TooManyEdits K) := oexc_of xl_TooManyEdits xy_TooManyEdits xs_TooManyEdits xe_TooManyEdits xt_TooManyEdits xp_TooManyEdits
  have E_TooManyEdits : ExcC K (A_TooManyEdits K) := ⟨xg_TooManyEdits, xq_TooManyEdits, xe_TooManyEdits, xh_TooManyEdits, xb_TooManyEdits, xz1, xz2, xm_TooManyEdits⟩
  have V_TooManyEdits : XfC K (A_TooManyEdits K) := ⟨xg_TooManyEdits, xq_TooManyEdits, xe_TooManyEdits, xh_TooManyEdits⟩
  have bI_TooManyEdits := bnd2 (p1 := "self") (p2 := "bound") FI_TooManyEdits
  have T_TooManyEdits : ExcT l.prog w K mg base 1 "TooManyEdits" ["bound"] := ⟨(A_TooManyEdits K), (He.ma K (A_TooManyEdits K) "__init__"), _, _, O_TooManyEdits, h_TooManyEdits, xi_TooManyEdits, xj_TooManyEdits, init1 FI_TooManyEdits sci_TooManyEdits rfl O_TooManyEdits xn_TooManyEdits_bound (by first | exact Or.inl rfl | exact Or.inr (Or.inl rfl) | exact Or.inr (Or.inr rfl)) (by first | exact Or.inl rfl | exact Or.inr (Or.inl rfl) | exact Or.inr (Or.inr rfl)), bI_TooManyEdits⟩
  have O_BatchFailed : OexC K (A_BatchFailed K) := oexc_of xl_BatchFailed xy_BatchFailed xs_BatchFailed xe_BatchFailed xt_BatchFailed xp_BatchFailed
  have E_BatchFailed : ExcC K (A_BatchFailed K) := ⟨xg_BatchFailed, xq_BatchFailed, xe_BatchFailed, xh_BatchFailed, xb_BatchFailed, xz1, xz2, xm_BatchFailed⟩
  have V_BatchFailed : XfC K (A_BatchFailed K) := ⟨xg_BatchFailed, xq_BatchFailed, xe_BatchFailed, xh_BatchFailed⟩
  have bI_BatchFailed := bnd2 (p1 := "self") (p2 := "index") FI_BatchFailed
  have T_BatchFailed : ExcT l.prog w K mg base 1 "BatchFailed" ["index"] := ⟨(A_BatchFailed K), (He.ma K (A_BatchFailed K) "__init__"), _, _, O_BatchFailed, h_BatchFailed, xi_BatchFailed, xj_BatchFailed, init1 FI_BatchFailed sci_BatchFailed rfl O_BatchFailed xn_BatchFailed_index (by first | exact Or.inl rfl | exact Or.inr (Or.inl rfl) | exact Or.inr (Or.inr rfl)) (by first | exact Or.inl rfl | exact Or.inr (Or.inl rfl) | exact Or.inr (Or.inr rfl)), bI_BatchFailed⟩
  have O_BadText : OexC K (A_BadText K) := oexc_of xl_BadText xy_BadText xs_BadText xe_BadText xt_BadText xp_BadText
  have E_BadText : ExcC K (A_BadText K) := ⟨xg_BadText, xq_BadText, xe_BadText, xh_BadText, xb_BadText, xz1, xz2, xm_BadText⟩
  have V_BadText : XfC K (A_BadText K) := ⟨xg_BadText, xq_BadText, xe_BadText, xh_BadText⟩
  have bI_BadText := bnd2 (p1 := "self") (p2 := "index") FI_BadText
  have T_BadText : ExcT l.prog w K mg base 1 "BadText" ["index"] := ⟨(A_BadText K), (He.ma K (A_BadText K) "__init__"), _, _, O_BadText, h_BadText, xi_BadText, xj_BadText, init1 FI_BadText sci_BadText rfl O_BadText xn_BadText_index (by first | exact Or.inl rfl | exact Or.inr (Or.inl rfl) | exact Or.inr (Or.inr rfl)) (by first | exact Or.inl rfl | exact Or.inr (Or.inl rfl) | exact Or.inr (Or.inr rfl)), bI_BadText⟩
  have O_NoFreeHour : OexC K (A_NoFreeHour K) := oexc_of xl_NoFreeHour xy_NoFreeHour xs_NoFreeHour xe_NoFreeHour xt_NoFreeHour xp_NoFreeHour
  have E_NoFreeHour : ExcC K (A_NoFreeHour K) := ⟨xg_NoFreeHour, xq_NoFreeHour, xe_NoFreeHour, xh_NoFreeHour, xb_NoFreeHour, xz1, xz2, xm_NoFreeHour⟩
  have V_NoFreeHour : XfC K (A_NoFreeHour K) := ⟨xg_NoFreeHour, xq_NoFreeHour, xe_NoFreeHour, xh_NoFreeHour⟩
  have bI_NoFreeHour := bnd3 (p1 := "self") (p2 := "side") (p3 := "person") FI_NoFreeHour
  have T_NoFreeHour : ExcT l.prog w K mg base 1 "NoFreeHour" ["side", "person"] := ⟨(A_NoFreeHour K), (He.ma K (A_NoFreeHour K) "__init__"), _, _, O_NoFreeHour, h_NoFreeHour, xi_NoFreeHour, xj_NoFreeHour, init2 FI_NoFreeHour sci_NoFreeHour rfl O_NoFreeHour xn_NoFreeHour_side xn_NoFreeHour_person (by first | exact Or.inl rfl | exact Or.inr (Or.inl rfl) | exact Or.inr (Or.inr rfl)) (by first | exact Or.inl rfl | exact Or.inr (Or.inl rfl) | exact Or.inr (Or.inr rfl)) (by first | exact Or.inl rfl | exact Or.inr (Or.inl rfl) | exact Or.inr (Or.inr rfl)), bI_NoFreeHour⟩
  have E_NothingToUndo : ExcC K (A_NothingToUndo K) := ⟨xg_NothingToUndo, xq_NothingToUndo, xe_NothingToUndo, xh_NothingToUndo, xb_NothingToUndo, xz1, xz2, xm_NothingToUndo⟩
  have V_NothingToUndo : XfC K (A_NothingToUndo K) := ⟨xg_NothingToUndo, xq_NothingToUndo, xe_NothingToUndo, xh_NothingToUndo⟩
  have T_NothingToUndo : ExcZ l.prog w K mg "NothingToUndo" := excZ_mk PySem.F.excBase_ValueError xo_NothingToUndo h_NothingToUndo xp_NothingToUndo xe_NothingToUndo xt_NothingToUndo
  have E_HasCycle : ExcC K (A_HasCycle K) := ⟨xg_HasCycle, xq_HasCycle, xe_HasCycle, xh_HasCycle, xb_HasCycle, xz1, xz2, xm_HasCycle⟩
  have V_HasCycle : XfC K (A_HasCycle K) := ⟨xg_HasCycle, xq_HasCycle, xe_HasCycle, xh_HasCycle⟩
  have T_HasCycle : ExcZ l.prog w K mg "HasCycle" := excZ_mk PySem.F.excBase_ValueError xo_HasCycle h_HasCycle xp_HasCycle xe_HasCycle xt_HasCycle
  have E_BadLists : ExcC K (A_BadLists K) := ⟨xg_BadLists, xq_BadLists, xe_BadLists, xh_BadLists, xb_BadLists, xz1, xz2, xm_BadLists⟩
  have V_BadLists : XfC K (A_BadLists K) := ⟨xg_BadLists, xq_BadLists, xe_BadLists, xh_BadLists⟩
  have T_BadLists : ExcZ l.prog w K mg "BadLists" := excZ_mk PySem.F.excBase_ValueError xo_BadLists h_BadLists xp_BadLists xe_BadLists xt_BadLists
  have E_BadBatch : ExcC K (A_BadBatch K) := ⟨xg_BadBatch, xq_BadBatch, xe_BadBatch, xh_BadBatch, xb_BadBatch, xz1, xz2, xm_BadBatch⟩
  have V_BadBatch : XfC K (A_BadBatch K) := ⟨xg_BadBatch, xq_BadBatch, xe_BadBatch, xh_BadBatch⟩
  have T_BadBatch : ExcZ l.prog w K mg "BadBatch" := excZ_mk PySem.F.excBase_ValueError xo_BadBatch h_BadBatch xp_BadBatch xe_BadBatch xt_BadBatch
  have E_Busy : ExcC K (A_Busy K) := ⟨xg_Busy, xq_Busy, xe_Busy, xh_Busy, xb_Busy, xz1, xz2, xm_Busy⟩
  have V_Busy : XfC K (A_Busy K) := ⟨xg_Busy, xq_Busy, xe_Busy, xh_Busy⟩
  have T_Busy : ExcZ l.prog w K mg "Busy" := excZ_mk PySem.F.excBase_ValueError xo_Busy h_Busy xp_Busy xe_Busy xt_Busy
  have O_NoLesson : OexL K (A_NoLesson K) := oexl_of xl_NoLesson xy_NoLesson xs_NoLesson xe_NoLesson xt_NoLesson xp_NoLesson
  have E_NoLesson : ExcC K (A_NoLesson K) := ⟨xg_NoLesson, xq_NoLesson, xe_NoLesson, xh_NoLesson, xb_NoLesson, xz1, xz2, xm_NoLesson⟩
  have V_NoLesson : XfC K (A_NoLesson K) := ⟨xg_NoLesson, xq_NoLesson, xe_NoLesson, xh_NoLesson⟩
  have bI_NoLesson := bnd2 (p1 := "self") (p2 := "value") FI_NoLesson
  have T_NoLesson : ExcG l.prog w K mg base 1 "NoLesson" ["value"] := excG_mk O_NoLesson h_NoLesson xi_NoLesson xj_NoLesson (initL1 FI_NoLesson sci_NoLesson rfl O_NoLesson xn_NoLesson_value (by first | exact Or.inl rfl | exact Or.inr (Or.inl rfl) | exact Or.inr (Or.inr rfl)) (by first | exact Or.inl rfl | exact Or.inr (Or.inl rfl) | exact Or.inr (Or.inr rfl))) bI_NoLesson
  have O_NoIndex : OexL K (A_NoIndex K) := oexl_of xl_NoIndex xy_NoIndex xs_NoIndex xe_NoIndex xt_NoIndex xp_NoIndex
  have E_NoIndex : ExcC K (A_NoIndex K) := ⟨xg_NoIndex, xq_NoIndex, xe_NoIndex, xh_NoIndex, xb_NoIndex, xz1, xz2, xm_NoIndex⟩
  have V_NoIndex : XfC K (A_NoIndex K) := ⟨xg_NoIndex, xq_NoIndex, xe_NoIndex, xh_NoIndex⟩
  have bI_NoIndex := bnd2 (p1 := "self") (p2 := "value") FI_NoIndex
  have T_NoIndex : ExcG l.prog w K mg base 1 "NoIndex" ["value"] := excG_mk O_NoIndex h_NoIndex xi_NoIndex xj_NoIndex (initL1 FI_NoIndex sci_NoIndex rfl O_NoIndex xn_NoIndex_value (by first | exact Or.inl rfl | exact Or.inr (Or.inl rfl) | exact Or.inr (Or.inr rfl)) (by first | exact Or.inl rfl | exact Or.inr (Or.inl rfl) | exact Or.inr (Or.inr rfl))) bI_NoIndex
  have O_NoVersion : OexL K (A_NoVersion K) := oexl_of xl_NoVersion xy_NoVersion xs_NoVersion xe_NoVersion xt_NoVersion xp_NoVersion
  have E_NoVersion : ExcC K (A_NoVersion K) := ⟨xg_NoVersion, xq_NoVersion, xe_NoVersion, xh_NoVersion, xb_NoVersion, xz1, xz2, xm_NoVersion⟩
  have V_NoVersion : XfC K (A_NoVersion K) := ⟨xg_NoVersion, xq_NoVersion, xe_NoVersion, xh_NoVersion⟩
  have bI_NoVersion := bnd2 (p1 := "self") (p2 := "value") FI_NoVersion
  have T_NoVersion : ExcG l.prog w K mg base 1 "NoVersion" ["value"] := excG_mk O_NoVersion h_NoVersion xi_NoVersion xj_NoVersion (initL1 FI_NoVersion sci_NoVersion rfl O_NoVersion xn_NoVersion_value (by first | exact Or.inl rfl | exact Or.inr (Or.inl rfl) | exact Or.inr (Or.inr rfl)) (by first | exact Or.inl rfl | exact Or.inr (Or.inl rfl) | exact Or.inr (Or.inr rfl))) bI_NoVersion
  have O_NoPerson : OexL K (A_NoPerson K) := oexl_of xl_NoPerson xy_NoPerson xs_NoPerson xe_NoPerson xt_NoPerson xp_NoPerson
  have E_NoPerson : ExcC K (A_NoPerson K) := ⟨xg_NoPerson, xq_NoPerson, xe_NoPerson, xh_NoPerson, xb_NoPerson, xz1, xz2, xm_NoPerson⟩
  have V_NoPerson : XfC K (A_NoPerson K) := ⟨xg_NoPerson, xq_NoPerson, xe_NoPerson, xh_NoPerson⟩
  have bI_NoPerson := bnd3 (p1 := "self") (p2 := "side") (p3 := "value") FI_NoPerson
  have T_NoPerson : ExcG l.prog w K mg base 1 "NoPerson" ["side", "value"] := excG_mk O_NoPerson h_NoPerson xi_NoPerson xj_NoPerson (initL2 FI_NoPerson sci_NoPerson rfl O_NoPerson xn_NoPerson_side xn_NoPerson_value (by first | exact Or.inl rfl | exact Or.inr (Or.inl rfl) | exact Or.inr (Or.inr rfl)) (by first | exact Or.inl rfl | exact Or.inr (Or.inl rfl) | exact Or.inr (Or.inr rfl)) (by first | exact Or.inl rfl | exact Or.inr (Or.inl rfl) | exact Or.inr (Or.inr rfl))) bI_NoPerson
  have Vx_TooLarge : ExcV l.prog w K mg base 1 "TooLarge" ["bound"] := excV_C T_TooLarge
  have Vx_Unplaced : ExcV l.prog w K mg base 1 "Unplaced" ["lesson"] := excV_C T_Unplaced
  have Vx_ShortList : ExcV l.prog w K mg base 1 "ShortList" ["lesson"] := excV_C T_ShortList
  have Vx_BadOffer : ExcV l.prog w K mg base 1 "BadOffer" ["value"] := excV_C T_BadOffer
  have Vx_AlreadyHeld : ExcV l.prog w K mg base 1 "AlreadyHeld" ["lesson"] := excV_C T_AlreadyHeld
  have Vx_TooManyOffers : ExcV l.prog w K mg base 1 "TooManyOffers" ["bound"] := excV_C T_TooManyOffers
  have Vx_TooFewHours : ExcV l.prog w K mg base 1 "TooFewHours" ["degree"] := excV_C T_TooFewHours
  have Vx_TooManyLessons : ExcV l.prog w K mg base 1 "TooManyLessons" ["bound"] := excV_C T_TooManyLessons
  have Vx_NoSchedule : ExcV l.prog w K mg base 1 "NoSchedule" ["value"] := excV_C T_NoSchedule
  have Vx_BadRoster : ExcV l.prog w K mg base 1 "BadRoster" ["error"] := excV_C T_BadRoster
  have Vx_BadList : ExcV l.prog w K mg base 1 "BadList" ["value"] := excV_C T_BadList
  have Vx_TooManyEdits : ExcV l.prog w K mg base 1 "TooManyEdits" ["bound"] := excV_C T_TooManyEdits
  have Vx_BatchFailed : ExcV l.prog w K mg base 1 "BatchFailed" ["index"] := excV_C T_BatchFailed
  have Vx_BadText : ExcV l.prog w K mg base 1 "BadText" ["index"] := excV_C T_BadText
  have Vx_NoFreeHour : ExcV l.prog w K mg base 1 "NoFreeHour" ["side", "person"] := excV_C T_NoFreeHour
  have Vx_NothingToUndo : ExcVZ l.prog w K mg "NothingToUndo" := excVZ_mk PySem.F.excBase_ValueError xo_NothingToUndo h_NothingToUndo xp_NothingToUndo
  have Vx_HasCycle : ExcVZ l.prog w K mg "HasCycle" := excVZ_mk PySem.F.excBase_ValueError xo_HasCycle h_HasCycle xp_HasCycle
  have Vx_BadLists : ExcVZ l.prog w K mg "BadLists" := excVZ_mk PySem.F.excBase_ValueError xo_BadLists h_BadLists xp_BadLists
  have Vx_BadBatch : ExcVZ l.prog w K mg "BadBatch" := excVZ_mk PySem.F.excBase_ValueError xo_BadBatch h_BadBatch xp_BadBatch
  have Vx_Busy : ExcVZ l.prog w K mg "Busy" := excVZ_mk PySem.F.excBase_ValueError xo_Busy h_Busy xp_Busy
  have Vx_NoLesson : ExcV l.prog w K mg base 1 "NoLesson" ["value"] := excV_L O_NoLesson h_NoLesson xi_NoLesson xj_NoLesson (initL1 FI_NoLesson sci_NoLesson rfl O_NoLesson xn_NoLesson_value (by first | exact Or.inl rfl | exact Or.inr (Or.inl rfl) | exact Or.inr (Or.inr rfl)) (by first | exact Or.inl rfl | exact Or.inr (Or.inl rfl) | exact Or.inr (Or.inr rfl))) bI_NoLesson
  have Vx_NoIndex : ExcV l.prog w K mg base 1 "NoIndex" ["value"] := excV_L O_NoIndex h_NoIndex xi_NoIndex xj_NoIndex (initL1 FI_NoIndex sci_NoIndex rfl O_NoIndex xn_NoIndex_value (by first | exact Or.inl rfl | exact Or.inr (Or.inl rfl) | exact Or.inr (Or.inr rfl)) (by first | exact Or.inl rfl | exact Or.inr (Or.inl rfl) | exact Or.inr (Or.inr rfl))) bI_NoIndex
  have Vx_NoVersion : ExcV l.prog w K mg base 1 "NoVersion" ["value"] := excV_L O_NoVersion h_NoVersion xi_NoVersion xj_NoVersion (initL1 FI_NoVersion sci_NoVersion rfl O_NoVersion xn_NoVersion_value (by first | exact Or.inl rfl | exact Or.inr (Or.inl rfl) | exact Or.inr (Or.inr rfl)) (by first | exact Or.inl rfl | exact Or.inr (Or.inl rfl) | exact Or.inr (Or.inr rfl))) bI_NoVersion
  have Vx_NoPerson : ExcV l.prog w K mg base 1 "NoPerson" ["side", "value"] := excV_L O_NoPerson h_NoPerson xi_NoPerson xj_NoPerson (initL2 FI_NoPerson sci_NoPerson rfl O_NoPerson xn_NoPerson_side xn_NoPerson_value (by first | exact Or.inl rfl | exact Or.inr (Or.inl rfl) | exact Or.inr (Or.inr rfl)) (by first | exact Or.inl rfl | exact Or.inr (Or.inl rfl) | exact Or.inr (Or.inr rfl)) (by first | exact Or.inl rfl | exact Or.inr (Or.inl rfl) | exact Or.inr (Or.inr rfl))) bI_NoPerson
  have Iv_TooLarge : IsV K mg rtv_TooLarge (.ref (A_TooLarge K)) := isV_mk X G xz1 xz2 bv_TooLarge be_x (by decide +kernel)
  have Iv_Unplaced : IsV K mg rtv_Unplaced (.ref (A_Unplaced K)) := isV_mk X G xz1 xz2 bv_Unplaced be_x (by decide +kernel)
  have Iv_ShortList : IsV K mg rtv_ShortList (.ref (A_ShortList K)) := isV_mk X G xz1 xz2 bv_ShortList be_x (by decide +kernel)
  have Iv_BadOffer : IsV K mg rtv_BadOffer (.ref (A_BadOffer K)) := isV_mk X G xz1 xz2 bv_BadOffer be_x (by decide +kernel)
  have Iv_AlreadyHeld : IsV K mg rtv_AlreadyHeld (.ref (A_AlreadyHeld K)) := isV_mk X G xz1 xz2 bv_AlreadyHeld be_x (by decide +kernel)
  have Iv_TooManyOffers : IsV K mg rtv_TooManyOffers (.ref (A_TooManyOffers K)) := isV_mk X G xz1 xz2 bv_TooManyOffers be_x (by decide +kernel)
  have Iv_TooFewHours : IsV K mg rtv_TooFewHours (.ref (A_TooFewHours K)) := isV_mk X G xz1 xz2 bv_TooFewHours be_x (by decide +kernel)
  have Iv_TooManyLessons : IsV K mg rtv_TooManyLessons (.ref (A_TooManyLessons K)) := isV_mk X G xz1 xz2 bv_TooManyLessons be_x (by decide +kernel)
  have Iv_NoSchedule : IsV K mg rtv_NoSchedule (.ref (A_NoSchedule K)) := isV_mk X G xz1 xz2 bv_NoSchedule be_x (by decide +kernel)
  have Iv_BadRoster : IsV K mg rtv_BadRoster (.ref (A_BadRoster K)) := isV_mk X G xz1 xz2 bv_BadRoster be_x (by decide +kernel)
  have Iv_BadList : IsV K mg rtv_BadList (.ref (A_BadList K)) := isV_mk X G xz1 xz2 bv_BadList be_x (by decide +kernel)
  have Iv_TooManyEdits : IsV K mg rtv_TooManyEdits (.ref (A_TooManyEdits K)) := isV_mk X G xz1 xz2 bv_TooManyEdits be_x (by decide +kernel)
  have Iv_BatchFailed : IsV K mg rtv_BatchFailed (.ref (A_BatchFailed K)) := isV_mk X G xz1 xz2 bv_BatchFailed be_x (by decide +kernel)
  have Iv_BadText : IsV K mg rtv_BadText (.ref (A_BadText K)) := isV_mk X G xz1 xz2 bv_BadText be_x (by decide +kernel)
  have Iv_NoFreeHour : IsV K mg rtv_NoFreeHour (.ref (A_NoFreeHour K)) := isV_mk X G xz1 xz2 bv_NoFreeHour be_x (by decide +kernel)
  have Iv_NothingToUndo : IsV K mg rtv_NothingToUndo (.ref (A_NothingToUndo K)) := isV_mk X G xz1 xz2 bv_NothingToUndo be_x (by decide +kernel)
  have Iv_HasCycle : IsV K mg rtv_HasCycle (.ref (A_HasCycle K)) := isV_mk X G xz1 xz2 bv_HasCycle be_x (by decide +kernel)
  have Iv_BadLists : IsV K mg rtv_BadLists (.ref (A_BadLists K)) := isV_mk X G xz1 xz2 bv_BadLists be_x (by decide +kernel)
  have Iv_BadBatch : IsV K mg rtv_BadBatch (.ref (A_BadBatch K)) := isV_mk X G xz1 xz2 bv_BadBatch be_x (by decide +kernel)
  have Iv_Busy : IsV K mg rtv_Busy (.ref (A_Busy K)) := isV_mk X G xz1 xz2 bv_Busy be_x (by decide +kernel)
  have Iv_NoLesson : IsV K mg rtv_NoLesson (.ref (A_NoLesson K)) := isV_mk X G xz1 xz2 bv_NoLesson be_x (by decide +kernel)
  have Iv_NoIndex : IsV K mg rtv_NoIndex (.ref (A_NoIndex K)) := isV_mk X G xz1 xz2 bv_NoIndex be_x (by decide +kernel)
  have Iv_NoVersion : IsV K mg rtv_NoVersion (.ref (A_NoVersion K)) := isV_mk X G xz1 xz2 bv_NoVersion be_x (by decide +kernel)
  have Iv_NoPerson : IsV K mg rtv_NoPerson (.ref (A_NoPerson K)) := isV_mk X G xz1 xz2 bv_NoPerson be_x (by decide +kernel)
  have Iv_ListError : IsV K mg rtv_ListError (.ref (A_ListError K)) := isV_mk X G xz1 xz2 bv_ListError be_x (by decide +kernel)
  have Iv_ValueError : IsV K mg rtv_ValueError (.type "ValueError") := isV_mk X G xz1 xz2 bv_ValueError be_x (by decide +kernel)
  have Iv_LookupError : IsV K mg rtv_LookupError (.type "LookupError") := isV_mk X G xz1 xz2 bv_LookupError be_x (by decide +kernel)
  have Hx_AlreadyHeld_lesson : ∀ D, mg "AlreadyHeld" = some (.ref D) → XfC K D ∧ PySem.W.findIn K (.ref D) "lesson" = some none := fun D hD => by
    cases h_AlreadyHeld.symm.trans hD
    exact ⟨V_AlreadyHeld, xn_AlreadyHeld_lesson⟩
  have Hx_BadList_value : ∀ D, mg "BadList" = some (.ref D) → XfC K D ∧ PySem.W.findIn K (.ref D) "value" = some none := fun D hD => by
    cases h_BadList.symm.trans hD
    exact ⟨V_BadList, xn_BadList_value⟩
  have Hx_BadOffer_value : ∀ D, mg "BadOffer" = some (.ref D) → XfC K D ∧ PySem.W.findIn K (.ref D) "value" = some none := fun D hD => by
    cases h_BadOffer.symm.trans hD
    exact ⟨V_BadOffer, xn_BadOffer_value⟩
  have Hx_BadRoster_error : ∀ D, mg "BadRoster" = some (.ref D) → XfC K D ∧ PySem.W.findIn K (.ref D) "error" = some none := fun D hD => by
    cases h_BadRoster.symm.trans hD
    exact ⟨V_BadRoster, xn_BadRoster_error⟩
  have Hx_BadText_index : ∀ D, mg "BadText" = some (.ref D) → XfC K D ∧ PySem.W.findIn K (.ref D) "index" = some none := fun D hD => by
    cases h_BadText.symm.trans hD
    exact ⟨V_BadText, xn_BadText_index⟩
  have Hx_BatchFailed_index : ∀ D, mg "BatchFailed" = some (.ref D) → XfC K D ∧ PySem.W.findIn K (.ref D) "index" = some none := fun D hD => by
    cases h_BatchFailed.symm.trans hD
    exact ⟨V_BatchFailed, xn_BatchFailed_index⟩
  have Hx_NoFreeHour_person : ∀ D, mg "NoFreeHour" = some (.ref D) → XfC K D ∧ PySem.W.findIn K (.ref D) "person" = some none := fun D hD => by
    cases h_NoFreeHour.symm.trans hD
    exact ⟨V_NoFreeHour, xn_NoFreeHour_person⟩
  have Hx_NoFreeHour_side : ∀ D, mg "NoFreeHour" = some (.ref D) → XfC K D ∧ PySem.W.findIn K (.ref D) "side" = some none := fun D hD => by
    cases h_NoFreeHour.symm.trans hD
    exact ⟨V_NoFreeHour, xn_NoFreeHour_side⟩
  have Hx_NoIndex_value : ∀ D, mg "NoIndex" = some (.ref D) → XfC K D ∧ PySem.W.findIn K (.ref D) "value" = some none := fun D hD => by
    cases h_NoIndex.symm.trans hD
    exact ⟨V_NoIndex, xn_NoIndex_value⟩
  have Hx_NoLesson_value : ∀ D, mg "NoLesson" = some (.ref D) → XfC K D ∧ PySem.W.findIn K (.ref D) "value" = some none := fun D hD => by
    cases h_NoLesson.symm.trans hD
    exact ⟨V_NoLesson, xn_NoLesson_value⟩
  have Hx_NoPerson_side : ∀ D, mg "NoPerson" = some (.ref D) → XfC K D ∧ PySem.W.findIn K (.ref D) "side" = some none := fun D hD => by
    cases h_NoPerson.symm.trans hD
    exact ⟨V_NoPerson, xn_NoPerson_side⟩
  have Hx_NoPerson_value : ∀ D, mg "NoPerson" = some (.ref D) → XfC K D ∧ PySem.W.findIn K (.ref D) "value" = some none := fun D hD => by
    cases h_NoPerson.symm.trans hD
    exact ⟨V_NoPerson, xn_NoPerson_value⟩
  have Hx_NoSchedule_value : ∀ D, mg "NoSchedule" = some (.ref D) → XfC K D ∧ PySem.W.findIn K (.ref D) "value" = some none := fun D hD => by
    cases h_NoSchedule.symm.trans hD
    exact ⟨V_NoSchedule, xn_NoSchedule_value⟩
  have Hx_NoVersion_value : ∀ D, mg "NoVersion" = some (.ref D) → XfC K D ∧ PySem.W.findIn K (.ref D) "value" = some none := fun D hD => by
    cases h_NoVersion.symm.trans hD
    exact ⟨V_NoVersion, xn_NoVersion_value⟩
  have Hx_ShortList_lesson : ∀ D, mg "ShortList" = some (.ref D) → XfC K D ∧ PySem.W.findIn K (.ref D) "lesson" = some none := fun D hD => by
    cases h_ShortList.symm.trans hD
    exact ⟨V_ShortList, xn_ShortList_lesson⟩
  have Hx_TooFewHours_degree : ∀ D, mg "TooFewHours" = some (.ref D) → XfC K D ∧ PySem.W.findIn K (.ref D) "degree" = some none := fun D hD => by
    cases h_TooFewHours.symm.trans hD
    exact ⟨V_TooFewHours, xn_TooFewHours_degree⟩
  have Hx_TooLarge_bound : ∀ D, mg "TooLarge" = some (.ref D) → XfC K D ∧ PySem.W.findIn K (.ref D) "bound" = some none := fun D hD => by
    cases h_TooLarge.symm.trans hD
    exact ⟨V_TooLarge, xn_TooLarge_bound⟩
  have Hx_TooManyEdits_bound : ∀ D, mg "TooManyEdits" = some (.ref D) → XfC K D ∧ PySem.W.findIn K (.ref D) "bound" = some none := fun D hD => by
    cases h_TooManyEdits.symm.trans hD
    exact ⟨V_TooManyEdits, xn_TooManyEdits_bound⟩
  have Hx_TooManyLessons_bound : ∀ D, mg "TooManyLessons" = some (.ref D) → XfC K D ∧ PySem.W.findIn K (.ref D) "bound" = some none := fun D hD => by
    cases h_TooManyLessons.symm.trans hD
    exact ⟨V_TooManyLessons, xn_TooManyLessons_bound⟩
  have Hx_TooManyOffers_bound : ∀ D, mg "TooManyOffers" = some (.ref D) → XfC K D ∧ PySem.W.findIn K (.ref D) "bound" = some none := fun D hD => by
    cases h_TooManyOffers.symm.trans hD
    exact ⟨V_TooManyOffers, xn_TooManyOffers_bound⟩
  have Hx_Unplaced_lesson : ∀ D, mg "Unplaced" = some (.ref D) → XfC K D ∧ PySem.W.findIn K (.ref D) "lesson" = some none := fun D hD => by
    cases h_Unplaced.symm.trans hD
    exact ⟨V_Unplaced, xn_Unplaced_lesson⟩
  have C__law_state := cal__law_state (P := l.prog) (w := w) (base := base) (mg := mg) y_abs y_len F1 (PySem.W.mg_of X G a1) (bnd1 F1)
  have C__law_draw := cal__law_draw (P := l.prog) (w := w) (base := base) (mg := mg) y_len F2 (PySem.W.mg_of X G a2) (bnd2 F2)
  have C__law_odd := cal__law_odd (P := l.prog) (w := w) (base := base) (mg := mg) C__law_draw F3 (PySem.W.mg_of X G a3) (bnd1 F3)
  have C__law_errors := cal__law_errors (P := l.prog) (w := w) (base := base) (mg := mg) Vx_TooLarge Vx_Unplaced Vx_ShortList Vx_BadOffer Vx_AlreadyHeld Vx_TooManyOffers Vx_TooFewHours Vx_TooManyLessons Vx_NoSchedule Vx_BadRoster Vx_BadList Vx_TooManyEdits Vx_BatchFailed Vx_BadText Vx_NoFreeHour Vx_NothingToUndo Vx_HasCycle Vx_BadLists Vx_BadBatch Vx_Busy Vx_NoLesson Vx_NoIndex Vx_NoVersion Vx_NoPerson F4 (PySem.W.mg_of X G a4) (bnd2 F4)
  have C__law_flags := cal__law_flags (P := l.prog) (w := w) (base := base) (mg := mg) y_isinstance h_TooLarge h_Unplaced h_ShortList h_BadOffer h_AlreadyHeld h_TooManyOffers h_TooFewHours h_TooManyLessons h_NoSchedule h_BadRoster h_BadList h_TooManyEdits h_BatchFailed h_BadText h_NoFreeHour h_NothingToUndo h_HasCycle h_BadLists h_BadBatch h_Busy h_NoLesson h_NoIndex h_NoVersion h_NoPerson Iv_TooLarge Iv_Unplaced Iv_ShortList Iv_BadOffer Iv_AlreadyHeld Iv_TooManyOffers Iv_TooFewHours Iv_TooManyLessons Iv_NoSchedule Iv_BadRoster Iv_BadList Iv_TooManyEdits Iv_BatchFailed Iv_BadText Iv_NoFreeHour Iv_NothingToUndo Iv_HasCycle Iv_BadLists Iv_BadBatch Iv_Busy Iv_NoLesson Iv_NoIndex Iv_NoVersion Iv_NoPerson F5 (PySem.W.mg_of X G a5) (bnd1 F5)
  have C__law_fields := cal__law_fields (P := l.prog) (w := w) (base := base) (mg := mg) Vx_TooLarge Vx_Unplaced Vx_ShortList Vx_BadOffer Vx_AlreadyHeld Vx_TooManyOffers Vx_TooFewHours Vx_TooManyLessons Vx_NoSchedule Vx_BadRoster Vx_BadList Vx_TooManyEdits Vx_BatchFailed Vx_BadText Vx_NoFreeHour Vx_NoPerson Vx_NoLesson Vx_NoIndex Vx_NoVersion Hx_TooLarge_bound Hx_Unplaced_lesson Hx_ShortList_lesson Hx_BadOffer_value Hx_AlreadyHeld_lesson Hx_TooManyOffers_bound Hx_TooFewHours_degree Hx_TooManyLessons_bound Hx_NoSchedule_value Hx_BadRoster_error Hx_BadList_value Hx_TooManyEdits_bound Hx_BatchFailed_index Hx_BadText_index Hx_NoFreeHour_side Hx_NoPerson_side Hx_NoLesson_value Hx_NoIndex_value Hx_NoVersion_value F6 (PySem.W.mg_of X G a6) (bnd2 F6)
  have C__law_same := cal__law_same (P := l.prog) (w := w) (base := base) (mg := mg) y_repr F7 (PySem.W.mg_of X G a7) (bnd2 F7)
  exact fn_law C__law_state C__law_odd C__law_errors C__law_flags C__law_fields C__law_same y_range y_isinstance y_ValueError y_LookupError h_MAX_PEOPLE h_MAX_LESSONS h_LAST_HOUR h_MAX_LIST h_MAX_OFFERED h_MAX_OFFERS h_MAX_PRODUCT h_MAX_EDITS h_BATCH h_ListError Vx_NoFreeHour Vx_NoPerson Iv_ListError Iv_ValueError Iv_LookupError Hx_NoFreeHour_person Hx_NoPerson_value F8
end LK
open PySem PySem.W PySem.Calls PyProof.Rows
set_option maxHeartbeats 0 in
theorem PySem.Challenge.cw_listedges_k08_errors_and_limits_holds : PySem.Challenge.rw_listedges_k08_errors_and_limits.Holds := by
  w_on; o_law
  refine HandSHeadRun.head_any (r := (PySem.W.OpenLaw.row PySem.Challenge.rw_listedges_k08_errors_and_limits)) (q := view (OpenLaw.row PySem.Challenge.rw_listedges_k08_errors_and_limits).prog [43]) (H := LK.hk) (ob := LK.hob) (M := 100000) (loose := LK.hnames) (d := HandSHeadRun.topDef (OpenLaw.row PySem.Challenge.rw_listedges_k08_errors_and_limits).prog 43) (kwd := []) LK.hob_eq
    (by kernel_rfl) (fun s => by kernel_rfl) LK.hrun (by kernel_rfl) (by kernel_rfl) (by kernel_rfl) (by rfl) (by first | assumption | decide +kernel) (by decide +kernel) ⟨rfl, rfl, rfl, rfl, rfl, by decide +kernel⟩ ?hw ?hc
  case hw => w_witness2
  case hc =>
    refine DL.walk_ofX (l := PySem.Challenge.rw_listedges_k08_errors_and_limits) (n := 63) (k := 4) (x := "_law_script") (Fn := LK.F_law) rfl (by decide) (by kernel_rfl) ⟨rfl, by decide, by decide⟩ ?F (fun ns h => LK.law_true ns h)
    intro w mg fa h Y G hmg0
    obtain ⟨K, KX, c⟩ := Y
    have hmg : mg ("law" : PySem.Str) = some (.ref fa) := by
      have e : (HandSHeadRun.topDef (OpenLaw.row PySem.Challenge.rw_listedges_k08_errors_and_limits).prog 43).name = ("law" : PySem.Str) := by kernel_rfl
      rw [← e]
      exact hmg0
    obtain ⟨fd, hb, hF⟩ := LK.facts (l := PySem.Challenge.rw_listedges_k08_errors_and_limits) (w := w) KX G hmg c
    exact ⟨K, fd, KX, hb, hF⟩
