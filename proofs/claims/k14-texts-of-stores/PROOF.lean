import PyProof.Rows.All
import Wide.All
import OpenK.AllK
import Wide.FinOn
import PyProof.EqAt
import PyProof.EqKinds
import PyProof.TupleCall
import HandS.Base
import HandS.Call
import HandS.List
import HandS.Ends
import HandS.Exc
import HandS.Words
import HandS.WordsExc
import HandS.CallSlots
import HandS.ExcCtx
import HandS.SuiteRaise
import HandS.Wide
import HandS.Text
import HandS.TupAny
import HandS.IsInst
import HandS.More
import HandS.Comp
import HandS.Iter
import HandS.Defaults
import HandS.Property
import HandS.MakeKw
import HandS.Star
import KE.KCallOwn
import HandS.Head0
import HandS.Head1
import HandS.Head2
import HandS.HeadEnd
import HandS.HeadHook1
import HandS.HeadHook2
import HandS.HeadHook3
import HandS.HeadHook4
import HandS.EndBits
import HandS.Style
import HandS.SlotsOwn
import HandS.NamedTup0
import HandS.ExcInit
import HandS.ExcInitHot
import HandS.ExcField
import HandS.ExcIs
import HandS.TryOnly
import KE.KExcInit
import HandS.ClsMeth
import HandS.HeadNt
import KE.GoesEnum
import HandS.RaiseMore
import HandS.TupMul
import HandS.SetFor
import HandS.Strs
import HandS.Conv
import HandS.RaiseFrom
import PyProof.ReprRoads
import PyProof.AutoSeq1
import OpenK.KMeth
import KE.KIsAll
import PyProof.IsiBase
import PyProof.FactsAll.set
import PyProof.RulesMatch
import KE.KDictList
import KE.KItemsList
import HandS.ExcValue
import PyProof.StrOps2
import HandS.SortInts
import PyProof.Rows.TmSorted
import PyProof.Rows.StrMeet
import HandS.DictComp
import HandS.Zip
import HandS.Flow
import KE.KOpsOwn
import HandS.ReplaceLit
import KE.KAsSuite
import PySem.Challenge.RW_joinsback_k14_texts_of_stores
set_option Elab.async false
set_option linter.all false
set_option maxRecDepth 100000
set_option maxHeartbeats 4000000
/-! PD1: values as plain data, the state (data, owned cells), judgements over data. -/
namespace PD
open PySem PySem.Spec PyProof.Rows L2
inductive D where
  | non | bl (b : Bool) | int (i : Int) | str (x : Str) | ty (n : String) | ref (a : Addr)
  | lst (xs : List D) | rl (xs : List D) | tup (xs : List D) | obj (C : Addr) (ns : List Str) (ds : List D) | dK (ks : List Key) (ds : List D)
  /-- a slice object -/
  | slc (lo hi st : Option Int)
  deriving Inhabited
/-- what a slice object is -/
def slcO (a : Addr) (lo hi st : Option Int) : Heap → Prop := fun h => ∃ o vl vu vs, h.get? a = some o ∧ o.cls = .type "slice" ∧ o.data = .fields #[vl, vu, vs] ∧ IsPart vl lo ∧ IsPart vu hi ∧ IsPart vs st
mutual
def Dp (K : PySem.W.Frag) (F : Hp) : D → V → Prop
  | .non, v => v = .non
  | .bl b, v => v = .bl b
  | .int i, v => v = .int i
  | .str x, v => v = .str x
  | .ty n, v => v = .ty n
  | .ref a, v => v = .ref a
  | .lst ds, v => ∃ a vs, v = .ref a ∧ F a = some (.lst vs) ∧ Dps K F ds vs
  | .rl ds, v => ∃ a vs, v = .ref a ∧ SqL K F a vs ∧ Dps K F ds vs
  | .tup ds, v => ∃ a vs, v = .ref a ∧ SqT K F a vs ∧ Dps K F ds vs
  | .obj C ns ds, v => ∃ a dx gs, v = .ref a ∧ F a = some (.ins C dx gs) ∧ gs.map (·.1) = ns ∧ Dps K F ds (gs.map (·.2))
  | .dK ks ds, v => ∃ a kvs, v = .ref a ∧ F a = some (.dK kvs) ∧ kvs.map (·.1) = ks ∧ Dps K F ds (kvs.map (·.2))
  | .slc lo hi st, v => ∃ a, v = .ref a ∧ F a = some (.ext (slcO a lo hi st))
def Dps (K : PySem.W.Frag) (F : Hp) : List D → List V → Prop
  | [], vs => vs = []
  | d :: ds, vs => ∃ v ws, vs = v :: ws ∧ Dp K F d v ∧ Dps K F ds ws
end
inductive Cell where
  | lst (ds : List D)
  | ins (C dx : Addr) (ns : List Str) (ds : List D)
  | dK (ks : List Key) (ds : List D)
  | dT (ks : List (List Key)) (ds : List D)
  | set (S : Int → Bool) (n : Nat)
  /-- a dict that is locked -/
  | dF (od : Obj) (gs : List (Key × V)) (ds : List D)
abbrev Mu := List (Addr × Cell)
abbrev Dl := List (Option D)
section
variable {K : PySem.W.Frag} {F F' H H' : Hp}
theorem Same.sqT {a : Addr} {xs : List V} (e : Same F F') (h : SqT K F a xs) : SqT K F' a xs := by
  rcases h with (h | ⟨o, h⟩) | h
  · exact .inl (.inl (e _ _ h))
  · exact .inl (.inr ⟨o, e _ _ h⟩)
  · exact .inr h
mutual
theorem Dp.mono (e : Same F F') : ∀ {d : D} {v : V}, Dp K F d v → Dp K F' d v
  | .non, _, h => h
  | .bl _, _, h => h
  | .int _, _, h => h
  | .str _, _, h => h
  | .ty _, _, h => h
  | .ref _, _, h => h
  | .lst ds, v, h => by
    rw [Dp] at h ⊢
    obtain ⟨a, vs, h1, h2, h3⟩ := h
    exact ⟨a, vs, h1, e _ _ h2, Dps.mono e h3⟩
  | .rl ds, v, h => by
    rw [Dp] at h ⊢
    obtain ⟨a, vs, h1, h2, h3⟩ := h
    exact ⟨a, vs, h1, e.seq h2, Dps.mono e h3⟩
  | .tup ds, v, h => by
    rw [Dp] at h ⊢
    obtain ⟨a, vs, h1, h2, h3⟩ := h
    exact ⟨a, vs, h1, Same.sqT e h2, Dps.mono e h3⟩
  | .obj C ns ds, v, h => by
    rw [Dp] at h ⊢
    obtain ⟨a, dx, gs, h1, h2, h3, h4⟩ := h
    exact ⟨a, dx, gs, h1, e _ _ h2, h3, Dps.mono e h4⟩
  | .dK ks ds, v, h => by
    rw [Dp] at h ⊢
    obtain ⟨a, gs, h1, h2, h3, h4⟩ := h
    exact ⟨a, gs, h1, e _ _ h2, h3, Dps.mono e h4⟩
  | .slc _ _ _, v, h => by
    rw [Dp] at h ⊢
    obtain ⟨a, h1, h2⟩ := h
    exact ⟨a, h1, e _ _ h2⟩
theorem Dps.mono (e : Same F F') : ∀ {ds : List D} {vs : List V}, Dps K F ds vs → Dps K F' ds vs
  | [], _, h => h
  | d :: ds, vs, h => by
    rw [Dps] at h ⊢
    obtain ⟨v, ws, h1, h2, h3⟩ := h
    exact ⟨v, ws, h1, Dp.mono e h2, Dps.mono e h3⟩
end
theorem Dps.nil : Dps K F [] [] := by rw [Dps]
theorem Dps.cons {d : D} {v : V} {ds : List D} {vs : List V} (h : Dp K F d v) (hs : Dps K F ds vs) : Dps K F (d :: ds) (v :: vs) := by
  rw [Dps]; exact ⟨v, vs, rfl, h, hs⟩
theorem Dps.uncons {d : D} {ds : List D} {vs : List V} (h : Dps K F (d :: ds) vs) : ∃ v ws, vs = v :: ws ∧ Dp K F d v ∧ Dps K F ds ws := by
  rw [Dps] at h; exact h
theorem Dps.unnil {vs : List V} (h : Dps K F [] vs) : vs = [] := by rw [Dps] at h; exact h
theorem Dps.length : ∀ {ds : List D} {vs : List V}, Dps K F ds vs → ds.length = vs.length
  | [], vs, h => by rw [h.unnil]; rfl
  | d :: ds, vs, h => by
    obtain ⟨v, ws, rfl, _, h3⟩ := h.uncons
    rw [List.length_cons, List.length_cons, Dps.length h3]
theorem Dps.get : ∀ {ds : List D} {vs : List V} {i : Nat} {d : D}, Dps K F ds vs → ds[i]? = some d → ∃ v, vs[i]? = some v ∧ Dp K F d v
  | [], vs, i, d, h, e => by simp at e
  | d' :: ds, vs, 0, d, h, e => by
    obtain ⟨v, ws, rfl, h2, h3⟩ := h.uncons
    rw [List.getElem?_cons_zero] at e
    cases e
    exact ⟨v, rfl, h2⟩
  | d' :: ds, vs, i + 1, d, h, e => by
    obtain ⟨v, ws, rfl, h2, h3⟩ := h.uncons
    rw [List.getElem?_cons_succ] at e
    obtain ⟨u, h4, h5⟩ := Dps.get h3 e
    exact ⟨u, by rw [List.getElem?_cons_succ]; exact h4, h5⟩
theorem Dps.append : ∀ {ds es : List D} {vs ws : List V}, Dps K F ds vs → Dps K F es ws → Dps K F (ds ++ es) (vs ++ ws)
  | [], _, _, _, h, h' => by rw [h.unnil]; exact h'
  | d :: ds, es, vs, ws, h, h' => by
    obtain ⟨v, us, rfl, h2, h3⟩ := h.uncons
    exact Dps.cons h2 (Dps.append h3 h')
theorem Dps.drop : ∀ {ds : List D} {vs : List V} (n : Nat), Dps K F ds vs → Dps K F (ds.drop n) (vs.drop n)
  | ds, vs, 0, h => h
  | [], vs, n + 1, h => by rw [h.unnil]; exact Dps.nil
  | d :: ds, vs, n + 1, h => by
    obtain ⟨v, us, rfl, h2, h3⟩ := h.uncons
    exact Dps.drop n h3
theorem Dps.take : ∀ {ds : List D} {vs : List V} (n : Nat), Dps K F ds vs → Dps K F (ds.take n) (vs.take n)
  | ds, vs, 0, h => by rw [List.take_zero, List.take_zero]; exact Dps.nil
  | [], vs, n + 1, h => by rw [h.unnil]; exact Dps.nil
  | d :: ds, vs, n + 1, h => by
    obtain ⟨v, us, rfl, h2, h3⟩ := h.uncons
    exact Dps.cons h2 (Dps.take n h3)
theorem Dps.set : ∀ {ds : List D} {vs : List V} (i : Nat) {d : D} {v : V}, Dps K F ds vs → Dp K F d v → Dps K F (ds.set i d) (vs.set i v)
  | [], vs, i, d, v, h, _ => by rw [h.unnil]; exact Dps.nil
  | d' :: ds, vs, 0, d, v, h, k => by
    obtain ⟨v', us, rfl, h2, h3⟩ := h.uncons
    exact Dps.cons k h3
  | d' :: ds, vs, i + 1, d, v, h, k => by
    obtain ⟨v', us, rfl, h2, h3⟩ := h.uncons
    exact Dps.cons h2 (Dps.set i h3 k)
theorem Dps.reverse : ∀ {ds : List D} {vs : List V}, Dps K F ds vs → Dps K F ds.reverse vs.reverse
  | [], vs, h => by rw [h.unnil]; exact Dps.nil
  | d :: ds, vs, h => by
    obtain ⟨v, us, rfl, h2, h3⟩ := h.uncons
    rw [List.reverse_cons, List.reverse_cons]
    exact (Dps.reverse h3).append (Dps.cons h2 Dps.nil)
theorem Dps.dropLast {ds : List D} {vs : List V} (h : Dps K F ds vs) : Dps K F ds.dropLast vs.dropLast := by
  rw [List.dropLast_eq_take, List.dropLast_eq_take, h.length]
  exact h.take _
theorem Dps.of_ints : ∀ {ns : List Int}, Dps K F (ns.map D.int) (ns.map V.int)
  | [] => Dps.nil
  | n :: ns => Dps.cons (by rw [Dp]) Dps.of_ints
theorem Dps.strs : ∀ {ns : List Str} {vs : List V}, Dps K F (ns.map D.str) vs → vs = ns.map V.str
  | [], vs, h => h.unnil
  | n :: ns, vs, h => by
    obtain ⟨v, us, rfl, h2, h3⟩ := Dps.uncons h
    rw [Dp] at h2
    rw [h2, Dps.strs h3, List.map_cons]
theorem Dps.of_strs : ∀ {ns : List Str}, Dps K F (ns.map D.str) (ns.map V.str)
  | [] => Dps.nil
  | n :: ns => Dps.cons (by rw [Dp]) Dps.of_strs
theorem Dps.bls : ∀ {ns : List Bool} {vs : List V}, Dps K F (ns.map D.bl) vs → vs = ns.map V.bl
  | [], vs, h => h.unnil
  | n :: ns, vs, h => by
    obtain ⟨v, us, rfl, h2, h3⟩ := Dps.uncons h
    rw [Dp] at h2
    rw [h2, Dps.bls h3, List.map_cons]
end
/-! ### cells, the state -/
def CellOk (K : PySem.W.Frag) (F H : Hp) (p : Addr) : Cell → Prop
  | .lst ds => ∃ vs, H p = some (.lst vs) ∧ Dps K F ds vs
  | .ins C dx ns ds => ∃ gs, H p = some (.ins C dx gs) ∧ gs.map (·.1) = ns ∧ Dps K F ds (gs.map (·.2))
  | .dK ks ds => ∃ kvs, H p = some (.dK kvs) ∧ kvs.map (·.1) = ks ∧ Dps K F ds (kvs.map (·.2))
  | .dT ks ds => ∃ kvs, H p = some (.dT kvs) ∧ kvs.map (·.1) = ks ∧ Dps K F ds (kvs.map (·.2))
  | .set S n => H p = some (.set S n)
  | .dF od gs ds => H p = some (.frz od (.dK gs)) ∧ Dps K F ds (gs.map (·.2))
def dom (μ : Mu) : List Addr := μ.map (·.1)
structure Sx (K : PySem.W.Frag) (F : Hp) (μ : Mu) (H : Hp) : Prop where
  sub : Same F H
  off : ∀ c ∈ μ, F c.1 = none
  nd : (dom μ).Nodup
  cells : ∀ c ∈ μ, CellOk K F H c.1 c.2
structure Step (F : Hp) (μ : Mu) (H : Hp) (F' : Hp) (μ' : Mu) (H' : Hp) : Prop where
  ext : Same F F'
  keep : ∀ a o, H a = some o → a ∉ dom μ → H' a = some o
  new : ∀ a o, F' a = some o → F a = none → H a = none ∨ a ∈ dom μ
  cell : ∀ a ∈ dom μ', a ∈ dom μ ∨ H a = none
theorem Step.refl (F : Hp) (μ : Mu) (H : Hp) : Step F μ H F μ H :=
  ⟨Same.refl F, fun _ _ h _ => h, fun a o h h' => by rw [h] at h'; (cases h'), fun a h => .inl h⟩
theorem Step.back {F F' H H' : Hp} {μ μ' : Mu} (s : Step F μ H F' μ' H') {a : Addr} (h : H' a = none) : H a = none ∨ a ∈ dom μ := by
  by_cases q : a ∈ dom μ
  · exact .inr q
  · cases e : H a with
    | none => exact .inl rfl
    | some o => rw [s.keep a o e q] at h; cases h
theorem Step.trans {F F1 F2 H H1 H2 : Hp} {μ μ1 μ2 : Mu} (s : Step F μ H F1 μ1 H1) (t : Step F1 μ1 H1 F2 μ2 H2) : Step F μ H F2 μ2 H2 where
  ext := s.ext.trans t.ext
  keep := fun a o h hn => t.keep a o (s.keep a o h hn) fun hm => by
    rcases s.cell a hm with q | q
    · exact hn q
    · rw [h] at q; cases q
  new := fun a o h h0 => by
    cases e : F1 a with
    | some u => exact s.new a u e h0
    | none =>
      rcases t.new a o h e with q | q
      · exact s.back q
      · rcases s.cell a q with z | z
        · exact .inr z
        · exact .inl z
  cell := fun a h => by
    rcases t.cell a h with q | q
    · exact s.cell a q
    · exact (s.back q).symm
def Fr (K : PySem.W.Frag) (F : Hp) (σ : L2.St) (δ : Dl) : Prop := σ.length = δ.length ∧ ∀ (i : Nat) (d : D), δ[i]? = some (some d) → ∃ v, σ[i]? = some (some v) ∧ Dp K F d v
theorem Fr.mono {K : PySem.W.Frag} {F F' : Hp} {σ : L2.St} {δ : Dl} (e : Same F F') (h : Fr K F σ δ) : Fr K F' σ δ :=
  ⟨h.1, fun i d q => by obtain ⟨v, h1, h2⟩ := h.2 i d q; exact ⟨v, h1, h2.mono e⟩⟩
theorem Fr.set {K : PySem.W.Frag} {F : Hp} {σ : L2.St} {δ : Dl} (h : Fr K F σ δ) (i : Nat) {v : V} {d : D} (r : Dp K F d v) : Fr K F (σ.set i (some v)) (δ.set i (some d)) := by
  refine ⟨by rw [List.length_set, List.length_set, h.1], fun j e q => ?_⟩
  by_cases hj : i = j
  · subst hj
    by_cases hl : i < δ.length
    · rw [List.getElem?_set_self hl] at q
      cases q
      exact ⟨v, List.getElem?_set_self (by rw [h.1]; exact hl), r⟩
    · rw [List.getElem?_eq_none (by rw [List.length_set]; omega)] at q
      cases q
  · rw [List.getElem?_set_ne hj] at q ⊢
    exact h.2 j e q
/-- a slot forgotten on both sides -/
theorem Fr.unset {K : PySem.W.Frag} {F : Hp} {σ : L2.St} {δ : Dl} (h : Fr K F σ δ) (i : Nat) (o : Option V) : Fr K F (σ.set i o) (δ.set i none) := by
  refine ⟨by rw [List.length_set, List.length_set, h.1], fun j e q => ?_⟩
  by_cases hj : i = j
  · subst hj
    by_cases hl : i < δ.length
    · rw [List.getElem?_set_self hl] at q
      cases q
    · rw [List.getElem?_eq_none (by rw [List.length_set]; omega)] at q
      cases q
  · rw [List.getElem?_set_ne hj] at q ⊢
    exact h.2 j e q
/-- what holds of an exception: its class, its own dict's fields -/
def XdOk (K : PySem.W.Frag) (F : Hp) (d : Option Addr) (ns : List Str) (ds : List D) : Prop :=
  (d = none ∧ ns = [] ∧ ds = []) ∨ ∃ a gs, d = some a ∧ F a = some (.xd gs) ∧ gs.map (·.1) = ns ∧ Dps K F ds (gs.map (·.2))
theorem XdOk.mono {K : PySem.W.Frag} {F F' : Hp} {d : Option Addr} {ns : List Str} {ds : List D} (e : Same F F') (h : XdOk K F d ns ds) : XdOk K F' d ns ds := by
  rcases h with h | ⟨a, gs, h1, h2, h3, h4⟩
  · exact .inl h
  · exact .inr ⟨a, gs, h1, e _ _ h2, h3, h4.mono e⟩
abbrev XD := Value → List Str → List D → Dl → Mu → Prop
def WofD (K : PySem.W.Frag) (F0 : Hp) (μ0 : Mu) (H0 : Hp) (W : XD) : WX := fun cls d σ H => ∃ F μ δ ns ds, Step F0 μ0 H0 F μ H ∧ Sx K F μ H ∧ Fr K F σ δ ∧ XdOk K F d ns ds ∧ W cls ns ds δ μ
/-! ### exceptions whose context is None, or one that has none itself -/
/-- an exception's object: class, dict, context -/
def Zx (c cls : Value) (d : Option Addr) : Obj → Prop := fun o => Zc cls d o ∧ ∀ vs : Array Value, o.data = .fields vs → vs[2]? = some c
theorem Zx.steady {c cls : Value} {d : Option Addr} : PXN.Steady1 (Zx c cls d) := fun o v h => by
  refine ⟨⟨PXN.steady_cls o v h.1.1, PXN.steady_dict o v h.1.2⟩, fun vs e => ?_⟩
  obtain ⟨k, dd, dt, sl⟩ := o
  cases dt with
  | fields vs0 =>
    have e2 : vs0.setIfInBounds 1 v = vs := Data.fields.inj e
    rw [← e2, Array.getElem?_setIfInBounds_ne (by decide)]
    exact h.2 vs0 rfl
  | _ => exact h.2 vs e
/-- such a context -/
def KC (B : Heap) (H : Hp) (c : Value) : Prop := c = .none ∨ ∃ (x : Addr) (o : Obj) (vs : Array Value), c = .ref x ∧ B.get? x = some o ∧ H x = none ∧ o.data = .fields vs ∧ vs[2]? = some .none
/-- in the air of X -/
def XM (X : Cx) (W : WX) (u : Value) (s' : Shared) : Prop :=
  ∃ (a : Addr) (B : Heap) (sI : Shared) (pins : List (Addr × Obj)) (σ : L2.St) (H : Hp) (cls : Value) (d : Option Addr),
    u = .ref a ∧ Inv X pins σ H sI ∧ (∀ b o, sI.heap.get? b = some o → b ∉ frs X.stack → B.get? b = some o) ∧ sI.heap.UpToSlots s'.heap ∧
      (∃ c, KC B H c ∧ Sky B X.stack a (Zx c cls d) X.env.locals s'.heap) ∧ H a = none ∧ s'.os = sI.os ∧ AllBare s'.gens ∧ W cls d σ H
def TakesM (X : Cx) (W : WX) : Prop := ∀ u s', XM X W u s' → X.xe u s'
/-- behind a call that let such a one out -/
def CXM (P : Program) (w : World) (outer : List Env) (H : Hp) (s : Shared) (E : XK) (u : Value) (s' : Shared) : Prop :=
  ∃ (a : Addr) (B : Heap) (H' : Hp) (cls : Value) (d : Option Addr), u = .ref a ∧ (∃ c, KC B H' c ∧ HandSPX.FlyingZ B outer a (Zx c cls d) s'.heap) ∧ HOk P w H' B ∧ UB (frs outer) H H' s.heap B s'.heap ∧ H' a = none ∧ s'.os = s.os ∧ AllBare s'.gens ∧ E cls d H'
section
variable {X : Cx} {pins : List (Addr × Obj)} {σ : L2.St} {H H' : Hp} {sI s s' : Shared} {B : Heap} {W : WX} {E : XK}
/-- the state that a call leaves, without the exception -/
theorem call_ground (I : Inv X pins σ H s) (st : B.StaysIn s'.heap) (hok : HOk X.prog X.w H' B) (ub : UB (frs X.stack) H H' s.heap B s'.heap) (os : s'.os = s.os) (ag : AllBare s'.gens) :
    ∃ sI, Inv X pins σ H' sI ∧ (∀ b o, sI.heap.get? b = some o → b ∉ frs X.stack → B.get? b = some o) ∧ sI.heap.UpToSlots s'.heap ∧ s'.os = sI.os := by
  obtain ⟨G, inG, notG⟩ := restrict s'.heap fun b => (B.get? b).isSome || decide (b ∈ frs X.stack)
  have fromB : ∀ b o, B.get? b = some o → G.get? b = some o := fun b o z => (inG b (by simp [z])).trans (st b o z)
  have fromF : ∀ b, b ∈ frs X.stack → G.get? b = s'.heap.get? b := fun b hb => inG b (by simp [hb])
  have ofG : ∀ b o, G.get? b = some o → s'.heap.get? b = some o ∧ ((B.get? b).isSome = true ∨ b ∈ frs X.stack) := fun b o z => by
    by_cases q : ((B.get? b).isSome || decide (b ∈ frs X.stack)) = true
    · rw [inG b q] at z
      exact ⟨z, by simpa [Bool.or_eq_true] using q⟩
    · rw [notG b (by simpa using q)] at z
      cases z
  refine ⟨{ s with heap := G, gens := s'.gens, drawn := s'.drawn, toks := s'.toks }, ?_, fun b o z hb => ?_, Heap.UpToSlots.of_keeps fun b o z => (ofG b o z).1, os⟩
  · have un : Un (frs X.stack) [] H H' s.heap G := by
      refine ⟨fun b o z n hb _ => fromB b o (ub.keep b o z n hb), fun b o z n hb _ => ?_, fun b o z n _ => ub.free b o z n, fun b o z _ => ?_, ub.tups, ub.frzs, ub.tbls⟩
      · obtain ⟨sl, q⟩ := ub.slot b o z hb
        exact ⟨sl, (fromF b hb).trans q⟩
      · by_cases hb : b ∈ frs X.stack
        · obtain ⟨sl, q⟩ := ub.slot b o z hb
          exact ⟨_, (fromF b hb).trans q⟩
        · obtain ⟨o2, q⟩ := ub.there b o z hb
          exact ⟨o2, fromB b o2 q⟩
    exact I.call (ch := []) un (hok.kept fromB) ag (fun _ z => nomatch z)
  · obtain ⟨z2, q⟩ := ofG b o z
    rcases q with q | q
    · obtain ⟨o2, q⟩ := Option.isSome_iff_exists.mp q
      have z3 := st b o2 q
      rw [z2] at z3
      cases z3
      exact q
    · exact absurd q hb
theorem XM.of_call (I : Inv X pins σ H s) (hW : ∀ cls d H', E cls d H' → W cls d σ H') {u : Value} (c : CXM X.prog X.w X.stack H s E u s') : XM X W u s' := by
  obtain ⟨a, B, H', cls, d, rfl, ⟨c, kc, fl⟩, hok, ub, na, os, ag, hE⟩ := c
  obtain ⟨sI, I2, nb, up, os2⟩ := call_ground I fl.1 hok ub os ag
  exact ⟨a, B, sI, pins, σ, H', cls, d, rfl, I2, nb, up, ⟨c, kc, .inr (.inl fl)⟩, na, os2, ag, hW _ _ _ hE⟩
/-- it leaves the def -/
theorem XM.leave (hs : X.stack = X.env :: X.outer) (hf : X.env.frame = some X.env.locals) (hex : X.ex = []) {E₁ : Value → Shared → Prop} (hW : ∀ cls d σ H, W cls d σ H → E cls d H) {u : Value} (x : XM X W u s') :
    wpAny (model X.prog X.w) X.A (leaving X.env u) (fun _ s2 => CXM X.prog X.w X.outer X.H_0 X.s_0 E u s2) E₁ s' := by
  obtain ⟨a, B, sI, pins, σ, H, cls, d, rfl, I, nb, up, ⟨c, kc, sky⟩, na, os, ag, w⟩ := x
  have frA : X.A.frames = some (X.env :: X.outer) := by rw [I.ok.frames, hs]
  have noex : ∀ b, b ∉ X.ex := fun b hb => by rw [hex] at hb; cases hb
  have noSt : ∀ b o, X.s_0.heap.get? b = some o → b ∉ X.fs → b ∉ frs X.stack := fun b o z hb hm => by
    rcases List.mem_cons.mp (I.stkSub b hm) with y | y
    · have h1 := Heap.lt_size z
      rw [y] at h1
      exact absurd (Nat.lt_of_lt_of_le h1 I.ok.above) (Nat.lt_irrefl _)
    · exact hb y
  have gr := I.inGround nb
  have go : ∀ h', HandSPX.FlyingZ B X.outer a (Zx c cls d) h' → s'.heap.UpToSlots h' → CXM X.prog X.w X.outer X.H_0 X.s_0 E (.ref a) { s' with heap := h' } := fun h' fl up2 => by
    refine ⟨a, B, H, cls, d, rfl, ⟨c, kc, fl⟩, gr, ?_, na, os.trans I.os, ag, hW _ _ _ _ w⟩
    refine ⟨fun b o z n hb => nb b o (I.base.keep b o z n hb (noex b)) (noSt b o z hb), fun b o z hb => ?_, fun b o z n => I.base.free b o z n (noex b), fun b o z hb => ?_, I.base.tups, I.base.frzs, I.base.tbls⟩
    · obtain ⟨_, o2, z2, nf⟩ := I.ok.funs.mem hb
      rw [z] at z2
      cases z2
      obtain ⟨l1, q1⟩ := I.base.slot b o z (I.ok.frf b hb) hb (noex b)
      obtain ⟨l2, q2⟩ := up b _ q1 nf
      obtain ⟨l3, q3⟩ := up2 b _ q2 nf
      exact ⟨l3, q3⟩
    · obtain ⟨o2, q1⟩ := I.base.there b o z (noex b)
      exact ⟨o2, nb b o2 q1 (noSt b o z hb)⟩
  rw [hs] at sky
  rcases sky with ⟨y1, y2, y3, oe, vs, y4, y5, y6, y7⟩ | fl | hd
  · exact PXN.leaving_firstZ Zx.steady frA y3 hf y4 y1 y2 y6 y7 y5 go
  · exact PXN.leaves_onZ Zx.steady frA hf fl go
  · exact HandSPX.leaves_heldZ hf hd go
theorem takesM_of (hs : X.stack = X.env :: X.outer) (hf : X.env.frame = some X.env.locals) (hex : X.ex = []) {E₁ : Value → Shared → Prop}
    (hx : X.xe = fun e s' => wpAny (model X.prog X.w) X.A (leaving X.env e) (fun _ s2 => CXM X.prog X.w X.outer X.H_0 X.s_0 E e s2) E₁ s') : TakesM X (fun cls d _ H => E cls d H) := fun u s' x => by
  rw [hx]
  exact XM.leave (W := fun cls d _ H => E cls d H) (E := E) hs hf hex (fun _ _ _ _ h => h) x
end
/-- who takes what flies: all (some false), what has None for its context (some true), or None or one that has None (none) -/
abbrev Md := Option Bool
def TkB : Md → Cx → WX → Prop
  | some true, X, W => L2N.Takes X W
  | some false, X, W => L2.Takes X W
  | none, X, W => TakesM X W
theorem TkB.imp {b : Md} {X : Cx} {W W' : WX} (t : TkB b X W) (h : ∀ c d σ H, W' c d σ H → W c d σ H) : TkB b X W' := by
  match b, t with
  | some true, t => exact L2N.Takes.imp t h
  | some false, t => exact L2.Takes.imp t h
  | none, t => exact fun u s' ⟨a, B, sI, pins, σ, H, cls, d, e, I, nb, up, sky, na, os, ag, w⟩ => t u s' ⟨a, B, sI, pins, σ, H, cls, d, e, I, nb, up, sky, na, os, ag, h _ _ _ _ w⟩
theorem sky_imp {B h : Heap} {l : List Env} {a L : Addr} {Z Z' : Obj → Prop} (z : ∀ o, Z o → Z' o) (x : Sky B l a Z L h) : Sky B l a Z' L h := by
  rcases x with ⟨y1, y2, y3, oe, vs, y4, y5, y6, y7⟩ | x | ⟨y1, y2, y3, y4⟩
  · exact .inl ⟨y1, y2, y3, oe, vs, y4, z _ y5, y6, y7⟩
  · exact .inr (.inl (L2H.flyingZ_imp z x))
  · exact .inr (.inr ⟨y1, y2, y3, L2H.tracedZ_imp z y4⟩)
theorem takesN_of {X : Cx} {W : WX} (t : L2.Takes X W) : L2N.Takes X W := fun u s' ⟨a, B, sI, pins, σ, H, cls, d, e, I, nb, up, sky, r⟩ =>
  t u s' ⟨a, B, sI, pins, σ, H, cls, d, e, I, nb, up, sky_imp (fun _ z => z.zc) sky, r⟩
theorem takesM_all {X : Cx} {W : WX} (t : L2.Takes X W) : TakesM X W := fun u s' ⟨a, B, sI, pins, σ, H, cls, d, e, I, nb, up, ⟨c, kc, sky⟩, r⟩ =>
  t u s' ⟨a, B, sI, pins, σ, H, cls, d, e, I, nb, up, sky_imp (fun _ z => z.1) sky, r⟩
theorem takesN_M {X : Cx} {W : WX} (t : TakesM X W) : L2N.Takes X W := fun u s' ⟨a, B, sI, pins, σ, H, cls, d, e, I, nb, up, sky, r⟩ =>
  t u s' ⟨a, B, sI, pins, σ, H, cls, d, e, I, nb, up, ⟨.none, .inl rfl, sky_imp (fun _ z => ⟨z.zc, z.2.2⟩) sky⟩, r⟩
theorem TkB.all {b : Md} {X : Cx} {W : WX} (t : TkB b X W) (h : b = some false) : L2.Takes X W := by
  subst h; exact t
theorem TkB.n {b : Md} {X : Cx} {W : WX} (t : TkB b X W) : L2N.Takes X W := by
  match b, t with
  | some true, t => exact t
  | some false, t => exact takesN_of t
  | none, t => exact takesN_M t
theorem TkB.m {b : Md} {X : Cx} {W : WX} (t : TkB b X W) (h : b ≠ some true) : TakesM X W := by
  match b, t with
  | some true, _ => exact absurd rfl h
  | some false, t => exact takesM_all t
  | none, t => exact t
structure Ct where
  X : Cx
  F0 : Hp
  μ0 : Mu
  H0 : Hp
  W : XD
  nn : Md
  tk : TkB nn X (WofD X.K F0 μ0 H0 W)
  po : PassesOwn (model X.prog X.w) X.A X.env X.xe
structure At (Γ : Ct) (F : Hp) (δ : Dl) (μ : Mu) (σ : L2.St) (H : Hp) : Prop where
  st : Step Γ.F0 Γ.μ0 Γ.H0 F μ H
  sx : Sx Γ.X.K F μ H
  fr : Fr Γ.X.K F σ δ
section
variable {Γ : Ct} {F F' H H' : Hp} {δ : Dl} {μ : Mu} {σ : L2.St}
/-- the heap grows by things that nobody knows -/
theorem At.ext (a : At Γ F δ μ σ H) (e : Same H H') : At Γ F δ μ σ H' where
  st := ⟨a.st.ext, fun b o h hn => e _ _ (a.st.keep b o h hn), a.st.new, a.st.cell⟩
  sx := ⟨a.sx.sub.trans e, a.sx.off, a.sx.nd, fun c hc => by
    have h := a.sx.cells c hc
    obtain ⟨p, c⟩ := c
    cases c with
    | lst ds => obtain ⟨vs, h1, h2⟩ := h; exact ⟨vs, e _ _ h1, h2⟩
    | ins C dx ns ds => obtain ⟨vs, h1, h2⟩ := h; exact ⟨vs, e _ _ h1, h2⟩
    | dK ns ds => obtain ⟨vs, h1, h2⟩ := h; exact ⟨vs, e _ _ h1, h2⟩
    | dT ns ds => obtain ⟨vs, h1, h2⟩ := h; exact ⟨vs, e _ _ h1, h2⟩
    | dF od gs ds => exact ⟨e _ _ h.1, h.2⟩
    | set S n => exact e _ _ h⟩
  fr := a.fr
theorem CellOk.mono {K : PySem.W.Frag} {p : Addr} {c : Cell} (e : Same F F') (e' : H' p = H p) (h : CellOk K F H p c) : CellOk K F' H' p c := by
  cases c with
  | lst ds => obtain ⟨vs, h1, h2⟩ := h; exact ⟨vs, e'.trans h1, h2.mono e⟩
  | ins C dx ns ds => obtain ⟨vs, h1, h2, h3⟩ := h; exact ⟨vs, e'.trans h1, h2, h3.mono e⟩
  | dK ns ds => obtain ⟨vs, h1, h2, h3⟩ := h; exact ⟨vs, e'.trans h1, h2, h3.mono e⟩
  | dT ns ds => obtain ⟨vs, h1, h2, h3⟩ := h; exact ⟨vs, e'.trans h1, h2, h3.mono e⟩
  | dF od gs ds => exact ⟨e'.trans h.1, h.2.mono e⟩
  | set S n => exact e'.trans h
theorem CellOk.there {K : PySem.W.Frag} {p : Addr} {c : Cell} (h : CellOk K F H p c) : ∃ o, H p = some o := by
  cases c with
  | lst ds => obtain ⟨vs, h1, h2⟩ := h; exact ⟨_, h1⟩
  | ins C dx ns ds => obtain ⟨vs, h1, h2, h3⟩ := h; exact ⟨_, h1⟩
  | dK ns ds => obtain ⟨vs, h1, h2, h3⟩ := h; exact ⟨_, h1⟩
  | dT ns ds => obtain ⟨vs, h1, h2, h3⟩ := h; exact ⟨_, h1⟩
  | dF od gs ds => exact ⟨_, h.1⟩
  | set S n => exact ⟨_, h⟩
theorem same_upd {p : Addr} {o : HO} (h : H p = none) : Same H (upd H p o) := fun a u e => by
  rw [upd_ne (ne_of_none e h)]; exact e
theorem same_upd2 {p : Addr} {o : HO} (s : Same F H) : Same (upd F p o) (upd H p o) := fun a u e => by
  by_cases q : a = p
  · subst q; rw [upd_same] at e ⊢; exact e
  · rw [upd_ne q] at e ⊢; exact s _ _ e
/-- a new thing, known from now on -/
theorem At.pers (a : At Γ F δ μ σ H) {p : Addr} (o : HO) (hp : H p = none) : At Γ (upd F p o) δ μ σ (upd H p o) := by
  have hF : F p = none := a.sx.sub.free hp
  have sF : Same F (upd F p o) := same_upd hF
  have hμ : p ∉ dom μ := fun hm => by
    obtain ⟨c, hc, e⟩ := List.mem_map.mp hm
    obtain ⟨u, hu⟩ := (a.sx.cells c hc).there
    rw [e, hp] at hu
    cases hu
  refine ⟨⟨a.st.ext.trans sF, fun b u h hn => ?_, fun b u h h0 => ?_, a.st.cell⟩, ⟨same_upd2 a.sx.sub, fun c hc => ?_, a.sx.nd, fun c hc => ?_⟩, a.fr.mono sF⟩
  · exact same_upd hp _ _ (a.st.keep b u h hn)
  · by_cases q : b = p
    · subst q; exact a.st.back hp
    · rw [upd_ne q] at h; exact a.st.new b u h h0
  · rw [upd_ne (fun e => hμ (by rw [← e]; exact List.mem_map.mpr ⟨c, hc, rfl⟩))]; exact a.sx.off c hc
  · refine (a.sx.cells c hc).mono sF (upd_ne fun e => hμ (by rw [← e]; exact List.mem_map.mpr ⟨c, hc, rfl⟩))
/-- a new thing, owned -/
theorem At.own (a : At Γ F δ μ σ H) {p : Addr} {o : HO} {c : Cell} (hp : H p = none) (hc : CellOk Γ.X.K F (upd H p o) p c) : At Γ F δ ((p, c) :: μ) σ (upd H p o) := by
  have hF : F p = none := a.sx.sub.free hp
  have hμ : p ∉ dom μ := fun hm => by
    obtain ⟨c, hc, e⟩ := List.mem_map.mp hm
    obtain ⟨u, hu⟩ := (a.sx.cells c hc).there
    rw [e, hp] at hu
    cases hu
  have b := a.ext (same_upd (o := o) hp)
  refine ⟨⟨b.st.ext, b.st.keep, b.st.new, fun x hx => ?_⟩, ⟨b.sx.sub, fun x hx => ?_, ?_, fun x hx => ?_⟩, b.fr⟩
  · rcases List.mem_cons.mp hx with e | e
    · rw [e]; exact (a.st.back hp).symm
    · exact b.st.cell x e
  · rcases List.mem_cons.mp hx with e | e
    · rw [e]; exact hF
    · exact b.sx.off x e
  · exact List.nodup_cons.mpr ⟨hμ, a.sx.nd⟩
  · rcases List.mem_cons.mp hx with e | e
    · rw [e]; exact hc
    · exact b.sx.cells x e
/-- an owned cell is let go: the thing is known from now on -/
theorem At.freeze {p : Addr} {c : Cell} {μ1 μ2 : Mu} {o : HO} (a : At Γ F δ (μ1 ++ (p, c) :: μ2) σ H) (hp : H p = some o) : At Γ (upd F p o) δ (μ1 ++ μ2) σ H := by
  have hF : F p = none := a.sx.off (p, c) (List.mem_append_right _ List.mem_cons_self)
  have sF : Same F (upd F p o) := same_upd hF
  have nd := a.sx.nd
  have e : dom (μ1 ++ (p, c) :: μ2) = dom μ1 ++ p :: dom μ2 := by unfold dom; rw [List.map_append, List.map_cons]
  rw [e] at nd
  have e2 : dom (μ1 ++ μ2) = dom μ1 ++ dom μ2 := by unfold dom; rw [List.map_append]
  have nd2 := List.nodup_append.mp nd
  have hnot : p ∉ dom (μ1 ++ μ2) := by
    rw [e2]; intro h
    rcases List.mem_append.mp h with q | q
    · exact (nd2.2.2 p q p List.mem_cons_self) rfl
    · exact (List.nodup_cons.mp nd2.2.1).1 q
  have sub : ∀ x ∈ μ1 ++ μ2, x ∈ μ1 ++ (p, c) :: μ2 := fun x hx => by
    rcases List.mem_append.mp hx with q | q
    · exact List.mem_append_left _ q
    · exact List.mem_append_right _ (List.mem_cons_of_mem _ q)
  refine ⟨⟨a.st.ext.trans sF, a.st.keep, fun b u h h0 => ?_, fun x hx => ?_⟩, ⟨fun b u h => ?_, fun x hx => ?_, ?_, fun x hx => ?_⟩, a.fr.mono sF⟩
  · by_cases q : b = p
    · rw [q]
      exact (a.st.cell p (by rw [e]; exact List.mem_append_right _ List.mem_cons_self)).symm
    · rw [upd_ne q] at h; exact a.st.new b u h h0
  · obtain ⟨y, hy, ey⟩ := List.mem_map.mp hx
    exact a.st.cell x (List.mem_map.mpr ⟨y, sub y hy, ey⟩)
  · by_cases q : b = p
    · rw [q, upd_same] at h; rw [q, ← h]; exact hp
    · rw [upd_ne q] at h; exact a.sx.sub _ _ h
  · rw [upd_ne (fun e3 => hnot (by rw [← e3]; exact List.mem_map.mpr ⟨x, hx, rfl⟩))]; exact a.sx.off x (sub x hx)
  · rw [e2]
    exact List.nodup_append.mpr ⟨nd2.1, (List.nodup_cons.mp nd2.2.1).2, fun a' ha' b' hb' => nd2.2.2 a' ha' b' (List.mem_cons_of_mem _ hb')⟩
  · exact (a.sx.cells x (sub x hx)).mono sF rfl
/-- an owned cell changes -/
theorem At.put {p : Addr} {c c' : Cell} {μ1 μ2 : Mu} {o : HO} (a : At Γ F δ (μ1 ++ (p, c) :: μ2) σ H) (hc : CellOk Γ.X.K F (upd H p o) p c') : At Γ F δ (μ1 ++ (p, c') :: μ2) σ (upd H p o) := by
  have hF : F p = none := a.sx.off (p, c) (List.mem_append_right _ List.mem_cons_self)
  have nd := a.sx.nd
  have e : ∀ c, dom (μ1 ++ (p, c) :: μ2) = dom μ1 ++ p :: dom μ2 := fun c => by unfold dom; rw [List.map_append, List.map_cons]
  have mem : ∀ x ∈ μ1 ++ (p, c') :: μ2, x = (p, c') ∨ (x ∈ μ1 ++ (p, c) :: μ2 ∧ x.1 ≠ p) := fun x hx => by
    rw [e] at nd
    have nd2 := List.nodup_append.mp nd
    rcases List.mem_append.mp hx with q | q
    · refine .inr ⟨List.mem_append_left _ q, fun z => ?_⟩
      exact (nd2.2.2 p (by rw [← z]; exact List.mem_map.mpr ⟨x, q, rfl⟩) p List.mem_cons_self) rfl
    · rcases List.mem_cons.mp q with z | z
      · exact .inl z
      · refine .inr ⟨List.mem_append_right _ (List.mem_cons_of_mem _ z), fun y => ?_⟩
        exact (List.nodup_cons.mp nd2.2.1).1 (by rw [← y]; exact List.mem_map.mpr ⟨x, z, rfl⟩)
  have hd : dom (μ1 ++ (p, c') :: μ2) = dom (μ1 ++ (p, c) :: μ2) := by rw [e, e]
  refine ⟨⟨a.st.ext, fun b u h hn => ?_, a.st.new, fun x hx => a.st.cell x (by rw [← hd]; exact hx)⟩, ⟨fun b u h => ?_, fun x hx => ?_, by rw [hd]; exact nd, fun x hx => ?_⟩, a.fr⟩
  · have hb : b ≠ p := fun z => by
      rcases a.st.cell p (by rw [e]; exact List.mem_append_right _ List.mem_cons_self) with q | q
      · exact hn (by rw [z]; exact q)
      · rw [z] at h; rw [h] at q; cases q
    rw [upd_ne hb]
    exact a.st.keep b u h hn
  · rw [upd_ne (fun z => by rw [z, hF] at h; cases h)]; exact a.sx.sub _ _ h
  · rcases mem x hx with z | ⟨z, _⟩
    · rw [z]; exact hF
    · exact a.sx.off x z
  · rcases mem x hx with z | ⟨z, y⟩
    · rw [z]; exact hc
    · exact (a.sx.cells x z).mono (Same.refl F) (upd_ne y)
/-- from one start to an earlier one -/
theorem At.fr_set (a : At Γ F δ μ σ H) (i : Nat) {v : V} {d : D} (r : Dp Γ.X.K F d v) : At Γ F (δ.set i (some d)) μ (σ.set i (some v)) H := ⟨a.st, a.sx, a.fr.set i r⟩
theorem At.var (a : At Γ F δ μ σ H) {i : Nat} {d : D} (h : δ[i]? = some (some d)) : ∃ v, σ[i]? = some (some v) ∧ Dp Γ.X.K F d v := a.fr.2 i d h
end
end PD
/-! PD2: the judgements over data, the rules of expressions, statements, loops. -/
namespace PD
open PySem PySem.Spec PyProof.Rows L2
/-! ### the semantic readings -/
def we (X : Cx) (e : Expr) : TE := fun σ H Q => ∀ (pins : List (Addr × Obj)) (s : Shared), Inv X pins σ H s → wpAny (model X.prog X.w) X.A (eval e X.env) (EP X pins σ Q) X.xe s
def wt (X : Cx) (e : Expr) : TT := fun σ H Q => ∀ (pins : List (Addr × Obj)) (s : Shared), Inv X pins σ H s → wpAny (model X.prog X.w) X.A (isTrue e X.env (eval e X.env)) (TP X pins σ Q) X.xe s
def ww (X : Cx) (e : Expr) : TT := fun σ H Q => ∀ (whole : Sem Value) (pins : List (Addr × Obj)) (s : Shared), Inv X pins σ H s → wpAny (model X.prog X.w) X.A (isTrue e X.env whole) (TP X pins σ Q) X.xe s
def wa (X : Cx) (es : List Expr) : TA := fun σ H Q => ∀ (pos : Pos) (pins : List (Addr × Obj)) (s : Shared), Inv X pins σ H s → wpAny (model X.prog X.w) X.A (spliced (backTo pos (starEach es X.env))) (AP X pins σ Q) X.xe s
def ws (X : Cx) (st : Stmt) : TS := fun D σ H => ∀ (pins : List (Addr × Obj)) (s : Shared), Inv X pins σ H s → wpAny (model X.prog X.w) X.A (exec st X.env) (SP X pins D) X.xe s
def wss (X : Cx) (st : List Stmt) : TS := fun D σ H => ∀ (pins : List (Addr × Obj)) (s : Shared), Inv X pins σ H s → wpAny (model X.prog X.w) X.A (execs st X.env) (SP X pins D) X.xe s
def wg (X : Cx) (tg : Expr) : TG := fun v σ H Q => ∀ (pins : List (Addr × Obj)) (s : Shared) (u : Value), Inv X pins σ H s → RelV v u →
    wpAny (model X.prog X.w) X.A (assign tg X.env u) (fun _ s' => ∃ σ' H', Inv X pins σ' H' s' ∧ Q σ' H') X.xe s
def wgs (X : Cx) (ts : List Expr) : TGs := fun vs σ H Q => ∀ (pins : List (Addr × Obj)) (s : Shared) (us : List Value), Inv X pins σ H s → Vals vs us →
    wpAny (model X.prog X.w) X.A (assignInOrder ((assignEach ts X.env).map (·.2)) us) (fun _ s' => ∃ σ' H', Inv X pins σ' H' s' ∧ Q σ' H') X.xe s
def wi (X : Cx) (tg iter : Expr) : TI := fun σ H R => ∀ (pins : List (Addr × Obj)) (s : Shared), Inv X pins σ H s →
    wpAny (model X.prog X.w) X.A (eval iter X.env) (fun v s1 => wpAny (model X.prog X.w) X.A (pyIter v) (PIE X pins σ tg R) X.xe s1) X.xe s
section
variable {X : Cx} {e : Expr} {es : List Expr} {st : Stmt} {sts : List Stmt} {tg iter : Expr}
theorem pe_we : PE X e (we X e) := ⟨fun pins s _ _ _ I h => h pins s I⟩
theorem pt_wt : PT X e (wt X e) := ⟨fun pins s _ _ _ I h => h pins s I⟩
theorem pw_ww : PW X e (ww X e) := ⟨fun wh pins s _ _ _ I h => h wh pins s I⟩
theorem pa_wa : PA X es (wa X es) := ⟨fun pos pins s _ _ _ I h => h pos pins s I⟩
theorem ps_ws : PS X st (ws X st) := ⟨fun pins s _ _ _ I h => h pins s I⟩
theorem pss_wss : PSs X sts (wss X sts) := ⟨fun pins s _ _ _ I h => h pins s I⟩
theorem pg_wg : PG X tg (wg X tg) := ⟨fun pins s _ _ _ u _ I r h => h pins s u I r⟩
theorem pgs_wgs : PGs X es (wgs X es) := ⟨fun pins s _ _ _ us _ I r h => h pins s us I r⟩
theorem pi_wi : PI X tg iter (wi X tg iter) := ⟨fun pins s _ _ _ I h => h pins s I⟩
theorem we_of {t : TE} {σ : L2.St} {H : Hp} {Q : VK} (h : PE X e t) (k : t σ H Q) : we X e σ H Q := fun pins s I => h.run pins s σ H Q I k
theorem wt_of {t : TT} {σ : L2.St} {H : Hp} {Q : Bool → Hp → Prop} (h : PT X e t) (k : t σ H Q) : wt X e σ H Q := fun pins s I => h.run pins s σ H Q I k
theorem ww_of {t : TT} {σ : L2.St} {H : Hp} {Q : Bool → Hp → Prop} (h : PW X e t) (k : t σ H Q) : ww X e σ H Q := fun wh pins s I => h.run wh pins s σ H Q I k
theorem wa_of {t : TA} {σ : L2.St} {H : Hp} {Q : List V → Hp → Prop} (h : PA X es t) (k : t σ H Q) : wa X es σ H Q := fun pos pins s I => h.run pos pins s σ H Q I k
theorem ws_of {t : TS} {σ : L2.St} {H : Hp} {D : Ends} (h : PS X st t) (k : t D σ H) : ws X st D σ H := fun pins s I => h.run pins s σ H D I k
theorem wss_of {t : TS} {σ : L2.St} {H : Hp} {D : Ends} (h : PSs X sts t) (k : t D σ H) : wss X sts D σ H := fun pins s I => h.run pins s σ H D I k
theorem wg_of {t : TG} {v : V} {σ : L2.St} {H : Hp} {Q : L2.St → Hp → Prop} (h : PG X tg t) (k : t v σ H Q) : wg X tg v σ H Q := fun pins s u I r => h.run pins s σ H v u Q I r k
theorem wgs_of {t : TGs} {vs : List V} {σ : L2.St} {H : Hp} {Q : L2.St → Hp → Prop} (h : PGs X es t) (k : t vs σ H Q) : wgs X es vs σ H Q := fun pins s us I r => h.run pins s σ H vs us Q I r k
theorem wi_of {t : TI} {σ : L2.St} {H : Hp} {R : It → Hp → Prop} (h : PI X tg iter t) (k : t σ H R) : wi X tg iter σ H R := fun pins s I => h.run pins s σ H R I k
theorem we_mono {σ : L2.St} {H : Hp} {Q Q' : VK} (h : we X e σ H Q) (k : ∀ v H', Q v H' → Q' v H') : we X e σ H Q' := fun pins s I =>
  thn (h pins s I) fun u s1 ⟨v, H1, I1, r, q⟩ => ⟨v, H1, I1, r, k v H1 q⟩
theorem wt_mono {σ : L2.St} {H : Hp} {Q Q' : Bool → Hp → Prop} (h : wt X e σ H Q) (k : ∀ v H', Q v H' → Q' v H') : wt X e σ H Q' := fun pins s I =>
  thn (h pins s I) fun u s1 ⟨H1, I1, q⟩ => ⟨H1, I1, k u H1 q⟩
theorem ww_mono {σ : L2.St} {H : Hp} {Q Q' : Bool → Hp → Prop} (h : ww X e σ H Q) (k : ∀ v H', Q v H' → Q' v H') : ww X e σ H Q' := fun wh pins s I =>
  thn (h wh pins s I) fun u s1 ⟨H1, I1, q⟩ => ⟨H1, I1, k u H1 q⟩
theorem wa_mono {σ : L2.St} {H : Hp} {Q Q' : List V → Hp → Prop} (h : wa X es σ H Q) (k : ∀ v H', Q v H' → Q' v H') : wa X es σ H Q' := fun pos pins s I =>
  thn (h pos pins s I) fun u s1 ⟨v, H1, I1, r, q⟩ => ⟨v, H1, I1, r, k v H1 q⟩
theorem wg_mono {v : V} {σ : L2.St} {H : Hp} {Q Q' : L2.St → Hp → Prop} (h : wg X tg v σ H Q) (k : ∀ σ' H', Q σ' H' → Q' σ' H') : wg X tg v σ H Q' := fun pins s u I r =>
  thn (h pins s u I r) fun _ s1 ⟨σ', H1, I1, q⟩ => ⟨σ', H1, I1, k σ' H1 q⟩
theorem wgs_mono {vs : List V} {σ : L2.St} {H : Hp} {Q Q' : L2.St → Hp → Prop} (h : wgs X es vs σ H Q) (k : ∀ σ' H', Q σ' H' → Q' σ' H') : wgs X es vs σ H Q' := fun pins s u I r =>
  thn (h pins s u I r) fun _ s1 ⟨σ', H1, I1, q⟩ => ⟨σ', H1, I1, k σ' H1 q⟩
theorem wi_mono {σ : L2.St} {H : Hp} {R R' : It → Hp → Prop} (h : wi X tg iter σ H R) (k : ∀ J H', R J H' → R' J H') : wi X tg iter σ H R' := fun pins s I =>
  thn (h pins s I) fun v s1 q => thn q fun itv s2 ⟨it, fp, tn, J, H', e, I2, T, st, f, r⟩ => ⟨it, fp, tn, J, H', e, I2, T, st, f, k J H' r⟩
structure EndsLe (D D' : Ends) : Prop where
  nx : ∀ σ H, D.nx σ H → D'.nx σ H
  rt : ∀ v H, D.rt v H → D'.rt v H
  bk : ∀ σ H, D.bk σ H → D'.bk σ H
  ct : ∀ σ H, D.ct σ H → D'.ct σ H
theorem SP_mono {pins : List (Addr × Obj)} {D D' : Ends} (l : EndsLe D D') {f : Flow} {s' : Shared} (h : SP X pins D f s') : SP X pins D' f s' := by
  cases f with
  | next => obtain ⟨σ', H', I, q⟩ := h; exact ⟨σ', H', I, l.nx _ _ q⟩
  | brk => obtain ⟨σ', H', I, q⟩ := h; exact ⟨σ', H', I, l.bk _ _ q⟩
  | cont => obtain ⟨σ', H', I, q⟩ := h; exact ⟨σ', H', I, l.ct _ _ q⟩
  | ret u => obtain ⟨v, σ', H', I, r, q⟩ := h; exact ⟨v, σ', H', I, r, l.rt _ _ q⟩
theorem ws_mono {σ : L2.St} {H : Hp} {D D' : Ends} (h : ws X st D σ H) (l : EndsLe D D') : ws X st D' σ H := fun pins s I => thn (h pins s I) fun _ _ q => SP_mono l q
theorem wss_mono {σ : L2.St} {H : Hp} {D D' : Ends} (h : wss X sts D σ H) (l : EndsLe D D') : wss X sts D' σ H := fun pins s I => thn (h pins s I) fun _ _ q => SP_mono l q
end
/-! ### the judgements over data -/
def PostE (Γ : Ct) (F : Hp) (δ : Dl) (σ : L2.St) (Q : D → Mu → Prop) : VK := fun v H' => ∃ F' d μ', Same F F' ∧ At Γ F' δ μ' σ H' ∧ Dp Γ.X.K F' d v ∧ Q d μ'
def PostA (Γ : Ct) (F : Hp) (δ : Dl) (σ : L2.St) (Q : List D → Mu → Prop) : List V → Hp → Prop := fun vs H' => ∃ F' ds μ', Same F F' ∧ At Γ F' δ μ' σ H' ∧ Dps Γ.X.K F' ds vs ∧ Q ds μ'
def PostT (Γ : Ct) (F : Hp) (δ : Dl) (σ : L2.St) (Q : Bool → Mu → Prop) : Bool → Hp → Prop := fun b H' => ∃ F' μ', Same F F' ∧ At Γ F' δ μ' σ H' ∧ Q b μ'
def PostN (Γ : Ct) (F : Hp) (Q : Dl → Mu → Prop) : L2.St → Hp → Prop := fun σ' H' => ∃ F' δ' μ', Same F F' ∧ At Γ F' δ' μ' σ' H' ∧ Q δ' μ'
def PostR (Γ : Ct) (F : Hp) (Q : D → Mu → Prop) : VK := fun v H' => ∃ F' d μ', Same F F' ∧ Step Γ.F0 Γ.μ0 Γ.H0 F' μ' H' ∧ Sx Γ.X.K F' μ' H' ∧ Dp Γ.X.K F' d v ∧ Q d μ'
structure En where
  nx : Dl → Mu → Prop
  rt : D → Mu → Prop
  bk : Dl → Mu → Prop := fun _ _ => False
  ct : Dl → Mu → Prop := fun _ _ => False
def En.to (E : En) (Γ : Ct) (F : Hp) : Ends := ⟨PostN Γ F E.nx, PostR Γ F E.rt, PostN Γ F E.bk, PostN Γ F E.ct⟩
def ed (Γ : Ct) (e : Expr) (δ : Dl) (μ : Mu) (Q : D → Mu → Prop) : Prop := ∀ F σ H, At Γ F δ μ σ H → we Γ.X e σ H (PostE Γ F δ σ Q)
def et (Γ : Ct) (e : Expr) (δ : Dl) (μ : Mu) (Q : Bool → Mu → Prop) : Prop := ∀ F σ H, At Γ F δ μ σ H → wt Γ.X e σ H (PostT Γ F δ σ Q)
def ew (Γ : Ct) (e : Expr) (δ : Dl) (μ : Mu) (Q : Bool → Mu → Prop) : Prop := ∀ F σ H, At Γ F δ μ σ H → ww Γ.X e σ H (PostT Γ F δ σ Q)
def ea (Γ : Ct) (es : List Expr) (δ : Dl) (μ : Mu) (Q : List D → Mu → Prop) : Prop := ∀ F σ H, At Γ F δ μ σ H → wa Γ.X es σ H (PostA Γ F δ σ Q)
def sd (Γ : Ct) (st : Stmt) (δ : Dl) (μ : Mu) (E : En) : Prop := ∀ F σ H, At Γ F δ μ σ H → ws Γ.X st (E.to Γ F) σ H
def sds (Γ : Ct) (st : List Stmt) (δ : Dl) (μ : Mu) (E : En) : Prop := ∀ F σ H, At Γ F δ μ σ H → wss Γ.X st (E.to Γ F) σ H
def gd (Γ : Ct) (tg : Expr) (d : D) (δ : Dl) (μ : Mu) (Q : Dl → Mu → Prop) : Prop := ∀ F σ H v, At Γ F δ μ σ H → Dp Γ.X.K F d v → wg Γ.X tg v σ H (PostN Γ F Q)
def gds (Γ : Ct) (tg : List Expr) (ds : List D) (δ : Dl) (μ : Mu) (Q : Dl → Mu → Prop) : Prop := ∀ F σ H vs, At Γ F δ μ σ H → Dps Γ.X.K F ds vs → wgs Γ.X tg vs σ H (PostN Γ F Q)
section
variable {Γ : Ct} {F F' H H' : Hp} {δ : Dl} {μ : Mu} {σ : L2.St}
theorem PostN.up {Q : Dl → Mu → Prop} (e : Same F F') {σ' : L2.St} {H' : Hp} (h : PostN Γ F' Q σ' H') : PostN Γ F Q σ' H' := by
  obtain ⟨F2, δ', μ', s, a, q⟩ := h; exact ⟨F2, δ', μ', e.trans s, a, q⟩
theorem PostR.up {Q : D → Mu → Prop} (e : Same F F') {v : V} {H' : Hp} (h : PostR Γ F' Q v H') : PostR Γ F Q v H' := by
  obtain ⟨F2, d, μ', s, a, q⟩ := h; exact ⟨F2, d, μ', e.trans s, a, q⟩
theorem PostE.up {Q : D → Mu → Prop} (e : Same F F') {v : V} {H' : Hp} (h : PostE Γ F' δ σ Q v H') : PostE Γ F δ σ Q v H' := by
  obtain ⟨F2, d, μ', s, a, q⟩ := h; exact ⟨F2, d, μ', e.trans s, a, q⟩
theorem PostT.up {Q : Bool → Mu → Prop} (e : Same F F') {v : Bool} {H' : Hp} (h : PostT Γ F' δ σ Q v H') : PostT Γ F δ σ Q v H' := by
  obtain ⟨F2, μ', s, a, q⟩ := h; exact ⟨F2, μ', e.trans s, a, q⟩
theorem PostA.up {Q : List D → Mu → Prop} (e : Same F F') {v : List V} {H' : Hp} (h : PostA Γ F' δ σ Q v H') : PostA Γ F δ σ Q v H' := by
  obtain ⟨F2, d, μ', s, a, q⟩ := h; exact ⟨F2, d, μ', e.trans s, a, q⟩
theorem En.up {E : En} (e : Same F F') : EndsLe (E.to Γ F') (E.to Γ F) := ⟨fun _ _ h => h.up e, fun _ _ h => h.up e, fun _ _ h => h.up e, fun _ _ h => h.up e⟩
structure EnLe (E E' : En) : Prop where
  nx : ∀ δ μ, E.nx δ μ → E'.nx δ μ
  rt : ∀ d μ, E.rt d μ → E'.rt d μ
  bk : ∀ δ μ, E.bk δ μ → E'.bk δ μ
  ct : ∀ δ μ, E.ct δ μ → E'.ct δ μ
theorem PostN.mono {Q Q' : Dl → Mu → Prop} {σ' : L2.St} {H' : Hp} (h : PostN Γ F Q σ' H') (k : ∀ δ μ, Q δ μ → Q' δ μ) : PostN Γ F Q' σ' H' := by
  obtain ⟨F2, δ', μ', s, a, q⟩ := h; exact ⟨F2, δ', μ', s, a, k _ _ q⟩
theorem PostR.mono {Q Q' : D → Mu → Prop} {v : V} {H' : Hp} (h : PostR Γ F Q v H') (k : ∀ δ μ, Q δ μ → Q' δ μ) : PostR Γ F Q' v H' := by
  obtain ⟨F2, d, μ', s, a, b, r, q⟩ := h; exact ⟨F2, d, μ', s, a, b, r, k _ _ q⟩
theorem EnLe.to {E E' : En} (l : EnLe E E') : EndsLe (E.to Γ F) (E'.to Γ F) := ⟨fun _ _ h => h.mono l.nx, fun _ _ h => h.mono l.rt, fun _ _ h => h.mono l.bk, fun _ _ h => h.mono l.ct⟩
theorem sd_mono {st : Stmt} {E E' : En} (h : sd Γ st δ μ E) (l : EnLe E E') : sd Γ st δ μ E' := fun F σ H a => ws_mono (h F σ H a) l.to
theorem ed_mono {e : Expr} {Q Q' : D → Mu → Prop} (h : ed Γ e δ μ Q) (k : ∀ d μ, Q d μ → Q' d μ) : ed Γ e δ μ Q' := fun F σ H a => we_mono (h F σ H a) fun v H' ⟨F', d, μ', s, a', r, q⟩ => ⟨F', d, μ', s, a', r, k _ _ q⟩
theorem et_mono {e : Expr} {Q Q' : Bool → Mu → Prop} (h : et Γ e δ μ Q) (k : ∀ d μ, Q d μ → Q' d μ) : et Γ e δ μ Q' := fun F σ H a => wt_mono (h F σ H a) fun v H' ⟨F', μ', s, a', q⟩ => ⟨F', μ', s, a', k _ _ q⟩
end
/-! ### names, constants -/
section
variable {Γ : Ct} {δ : Dl} {μ : Mu} {Q : D → Mu → Prop} {pos : Pos} {a b e : Expr}
theorem PostE.here {F : Hp} {H : Hp} {σ : L2.St} {d : D} {v : V} (h : At Γ F δ μ σ H) (r : Dp Γ.X.K F d v) (q : Q d μ) : PostE Γ F δ σ Q v H := ⟨F, d, μ, Same.refl F, h, r, q⟩
/-- a thing known from now on -/
theorem PostE.new {F : Hp} {H : Hp} {σ : L2.St} {d : D} {p : Addr} {o : HO} (h : At Γ F δ μ σ H) (hp : H p = none) (r : Dp Γ.X.K (upd F p o) d (.ref p)) (q : Q d μ) : PostE Γ F δ σ Q (.ref p) (upd H p o) :=
  ⟨upd F p o, d, μ, same_upd (h.sx.sub.free hp), h.pers o hp, r, q⟩
theorem PostE.own {F : Hp} {H : Hp} {σ : L2.St} {p : Addr} {o : HO} {c : Cell} (h : At Γ F δ μ σ H) (hp : H p = none) (hc : CellOk Γ.X.K F (upd H p o) p c) (q : Q (.ref p) ((p, c) :: μ)) : PostE Γ F δ σ Q (.ref p) (upd H p o) :=
  ⟨F, .ref p, (p, c) :: μ, Same.refl F, h.own hp hc, by rw [Dp], q⟩
theorem ed_name {i : Nat} {x : Str} {d : D} (hN : Γ.X.N[i]? = some x) (hδ : δ[i]? = some (some d)) (q : Q d μ) (hv : Vis Γ.X.env.scope x := by first | exact Or.inl rfl | exact Or.inr (Or.inl rfl) | exact Or.inr (Or.inr rfl))
    (hd : (x == ("__debug__" : Str)) = false := by decide +kernel) (hcd : (x == ("__classdict__" : Str)) = false := by decide +kernel) : ed Γ (.Name x pos) δ μ Q := fun F σ H h => by
  obtain ⟨v, e1, r⟩ := h.var hδ
  exact we_of (pe_var hN hv hd hcd) ⟨v, e1, PostE.here h r q⟩
theorem ed_int {i j} (q : Q (.int i) μ) : ed Γ (.Constant (.int i) j pos) δ μ Q := fun F σ H h => we_of pe_int (PostE.here (v := .int i) h (by rw [Dp]) q)
theorem ed_bl {i j} (q : Q (.bl i) μ) : ed Γ (.Constant (.bool i) j pos) δ μ Q := fun F σ H h => we_of pe_bl (PostE.here (v := .bl i) h (by rw [Dp]) q)
theorem ed_str {i j} (q : Q (.str i) μ) : ed Γ (.Constant (.str i) j pos) δ μ Q := fun F σ H h => we_of pe_str (PostE.here (v := .str i) h (by rw [Dp]) q)
theorem ed_non {j} (q : Q .non μ) : ed Γ (.Constant .none j pos) δ μ Q := fun F σ H h => we_of pe_non (PostE.here (v := .non) h (by rw [Dp]) q)
theorem ed_glob {x : Str} {v : V} {u : Value} {d : D} (hm : Γ.X.mg x = some u) (r : RelV v u) (hD : ∀ F, Dp Γ.X.K F d v) (q : Q d μ) (hg : Gl Γ.X x := by rfl) (hd : (x == ("__debug__" : Str)) = false := by decide +kernel) : ed Γ (.Name x pos) δ μ Q := fun F σ H h =>
  we_of (pe_glob hg hm r hd) (PostE.here (v := v) h (hD F) q)
/-! ### operators, calls, subscripts: semantic -/
/-- what a two-place function does with values -/
def rwf (X : Cx) (f : Value → Value → Sem Value) : R2 := fun x y H Q => ∀ (pins : List (Addr × Obj)) (s : Shared) (σ : L2.St) (v u : Value), Inv X pins σ H s → RelV x v → RelV y u → wpAny (model X.prog X.w) X.A (f v u) (EP X pins σ Q) X.xe s
theorem rwf_ok {X : Cx} {f : Value → Value → Sem Value} : OpR X f (rwf X f) := fun pins s σ H x y v u Q I rx ry h => h pins s σ v u I rx ry
theorem EP_mono {X : Cx} {pins : List (Addr × Obj)} {σ : L2.St} {Q Q' : VK} {u : Value} {s : Shared} (h : EP X pins σ Q u s) (k : ∀ v H, Q v H → Q' v H) : EP X pins σ Q' u s := by
  obtain ⟨v, H, I, r, q⟩ := h; exact ⟨v, H, I, r, k v H q⟩
theorem rwf_mono {X : Cx} {f : Value → Value → Sem Value} {x y : V} {H : Hp} {Q Q' : VK} (h : rwf X f x y H Q) (k : ∀ v H', Q v H' → Q' v H') : rwf X f x y H Q' := fun pins s σ v u I rx ry => thn (h pins s σ v u I rx ry) fun _ _ e => EP_mono e k
def opd (Γ : Ct) (f : Value → Value → Sem Value) (x y : D) (δ : Dl) (μ : Mu) (Q : D → Mu → Prop) : Prop := ∀ F σ H vx vy, At Γ F δ μ σ H → Dp Γ.X.K F x vx → Dp Γ.X.K F y vy → rwf Γ.X f vx vy H (PostE Γ F δ σ Q)
theorem ed_two {f : Value → Value → Sem Value} (h : ed Γ a δ μ fun x μ1 => ed Γ b δ μ1 fun y μ2 => opd Γ f x y δ μ2 Q) (F σ H) (at_ : At Γ F δ μ σ H) : tOp (rwf Γ.X f) (we Γ.X a) (we Γ.X b) σ H (PostE Γ F δ σ Q) := by
  refine we_mono (h F σ H at_) fun x H1 ⟨F1, d1, μ1, s1, h1, r1, q1⟩ => ?_
  refine we_mono (q1 F1 σ H1 h1) fun y H2 ⟨F2, d2, μ2, s2, h2, r2, q2⟩ => ?_
  exact rwf_mono (q2 F2 σ H2 x y h2 (r1.mono s2) r2) fun v H' z => PostE.up (s1.trans s2) z
theorem ed_bin {op : Operator} (h : ed Γ a δ μ fun x μ1 => ed Γ b δ μ1 fun y μ2 => opd Γ (binaryOp op) x y δ μ2 Q) : ed Γ (.BinOp a op b pos) δ μ Q := fun F σ H at_ => we_of (pe_op rwf_ok pe_we pe_we) (ed_two h F σ H at_)
theorem ed_cmp {op : CmpOp} (hb : behindInMarks op b = false) (h : ed Γ a δ μ fun x μ1 => ed Γ b δ μ1 fun y μ2 => opd Γ (compareOp op) x y δ μ2 Q) : ed Γ (.Compare a [op] [b] pos) δ μ Q := fun F σ H at_ => we_of (pe_cmpR rwf_ok pe_we pe_we hb) (ed_two h F σ H at_)
theorem et_cmp {op : CmpOp} {Q : Bool → Mu → Prop} (hb : behindInMarks op b = false) (h : ed Γ a δ μ fun x μ1 => ed Γ b δ μ1 fun y μ2 => opd Γ (compareOp op) x y δ μ2 fun d μ' => ∃ c, d = .bl c ∧ Q c μ') : et Γ (.Compare a [op] [b] pos) δ μ Q := fun F σ H at_ => by
  refine wt_of (pt_cmpR rwf_ok pe_we pe_we hb) (we_mono (ed_two h F σ H at_) fun x H1 z1 => we_mono z1 fun y H2 z2 => rwf_mono z2 fun v H' z3 => ?_)
  obtain ⟨F', d, μ', s, a', rr, c, rfl, q⟩ := z3
  rw [Dp] at rr
  exact ⟨c, rr, F', μ', s, a', q⟩
/-- a < b < c -/
theorem ed_chain {op op' : CmpOp} {c : Expr} (h : ed Γ a δ μ fun x μ1 => ed Γ b δ μ1 fun y μ2 => opd Γ (compareOp op) x y δ μ2 fun d μ3 => ∃ k, d = .bl k ∧ if k = true then ed Γ c δ μ3 fun z μ4 => opd Γ (compareOp op') y z δ μ4 Q else Q (.bl false) μ3)
    (hm : lastMarks [op, op'] [b, c] = false := by with_unfolding_all rfl) : ed Γ (.Compare a [op, op'] [b, c] pos) δ μ Q := fun F σ H at_ => by
  refine we_of (pe_chain rwf_ok rwf_ok pe_we pe_we pe_we hm) ?_
  refine we_mono (h F σ H at_) fun x H1 ⟨F1, d1, μ1, s1, h1, r1, q1⟩ => ?_
  refine we_mono (q1 F1 σ H1 h1) fun y H2 ⟨F2, d2, μ2, s2, h2, r2, q2⟩ => ?_
  refine rwf_mono (q2 F2 σ H2 x y h2 (r1.mono s2) r2) fun v H3 ⟨F3, d3, μ3, s3, h3, r3, k, e3, q3⟩ => ?_
  subst e3
  rw [Dp] at r3
  refine ⟨k, r3, ?_⟩
  cases k with
  | true =>
    rw [if_pos rfl] at q3 ⊢
    refine we_mono (q3 F3 σ H3 h3) fun z H4 ⟨F4, d4, μ4, s4, h4, r4, q4⟩ => ?_
    exact rwf_mono (q4 F4 σ H4 y z h4 ((r2.mono s3).mono s4) r4) fun v H' z => PostE.up (((s1.trans s2).trans s3).trans s4) z
  | false =>
    rw [if_neg Bool.false_ne_true] at q3 ⊢
    exact PostE.up ((s1.trans s2).trans s3) (PostE.here (d := .bl false) h3 (by rw [Dp]) q3)
def ruf (X : Cx) (f : Value → Sem Value) : V → Hp → VK → Prop := fun x H Q => ∀ (pins : List (Addr × Obj)) (s : Shared) (σ : L2.St) (v : Value), Inv X pins σ H s → RelV x v → wpAny (model X.prog X.w) X.A (f v) (EP X pins σ Q) X.xe s
theorem ruf_ok {X : Cx} {f : Value → Sem Value} : UnR X f (ruf X f) := fun pins s σ H x v Q I rx h => h pins s σ v I rx
theorem ruf_mono {X : Cx} {f : Value → Sem Value} {x : V} {H : Hp} {Q Q' : VK} (h : ruf X f x H Q) (k : ∀ v H', Q v H' → Q' v H') : ruf X f x H Q' := fun pins s σ v I rx => thn (h pins s σ v I rx) fun _ _ e => EP_mono e k
def und (Γ : Ct) (f : Value → Sem Value) (x : D) (δ : Dl) (μ : Mu) (Q : D → Mu → Prop) : Prop := ∀ F σ H vx, At Γ F δ μ σ H → Dp Γ.X.K F x vx → ruf Γ.X f vx H (PostE Γ F δ σ Q)
theorem ed_un {op : UnaryOp} (h : ed Γ a δ μ fun x μ1 => und Γ (unaryOp op) x δ μ1 Q) : ed Γ (.UnaryOp op a pos) δ μ Q := fun F σ H at_ => we_of (pe_un ruf_ok pe_we) (we_mono (h F σ H at_) fun x H1 ⟨F1, d1, μ1, s1, h1, r1, q1⟩ => ruf_mono (q1 F1 σ H1 x h1 r1) fun v H' z => PostE.up s1 z)
/-- a known value called with values -/
def rcf (X : Cx) (f : Value) : List V → Hp → VK → Prop := fun xs H Q => ∀ (pins : List (Addr × Obj)) (s : Shared) (σ : L2.St) (us : List Value), Inv X pins σ H s → Vals xs us → wpAny (model X.prog X.w) X.A (call f us) (EP X pins σ Q) X.xe s
theorem rcf_ok {X : Cx} {f : Value} : CallR X f (rcf X f) := fun pins s σ H x v Q I rx h => h pins s σ v I rx
theorem rcf_mono {X : Cx} {f : Value} {x : List V} {H : Hp} {Q Q' : VK} (h : rcf X f x H Q) (k : ∀ v H', Q v H' → Q' v H') : rcf X f x H Q' := fun pins s σ v I rx => thn (h pins s σ v I rx) fun _ _ e => EP_mono e k
def cld (Γ : Ct) (f : Value) (xs : List D) (δ : Dl) (μ : Mu) (Q : D → Mu → Prop) : Prop := ∀ F σ H vs, At Γ F δ μ σ H → Dps Γ.X.K F xs vs → rcf Γ.X f vs H (PostE Γ F δ σ Q)
theorem ed_callB {x : Str} {id : String} {es : List Expr} {p : Pos} (hm : Γ.X.mg x = none) (hv : bootBuiltins x = some (.builtin id)) (h : ea Γ (e :: es) δ μ fun xs μ1 => cld Γ (.builtin id) xs δ μ1 Q) (hg : Gl Γ.X x := by rfl)
    (hn : x ≠ "__name__" := by decide +kernel) (hdb : (x == ("__debug__" : Str)) = false := by decide +kernel)
    (he : starEach (e :: es) Γ.X.env = (false, eval e Γ.X.env) :: starEach es Γ.X.env := by rfl) (hpl : (backTo pos (starEach es Γ.X.env)).any (·.1) = false := by rfl) : ed Γ (.Call (.Name x p) (e :: es) [] pos) δ μ Q := fun F σ H at_ =>
  we_of (pe_callB rcf_ok hg hm hv pa_wa hn hdb he hpl) (wa_mono (h F σ H at_) fun vs H1 ⟨F1, d1, μ1, s1, h1, r1, q1⟩ => rcf_mono (q1 F1 σ H1 vs h1 r1) fun v H' z => PostE.up s1 z)
theorem ed_callTy {x : Str} {T : String} {es : List Expr} {p : Pos} (hm : Γ.X.mg x = none) (hv : bootBuiltins x = some (.type T)) (h : ea Γ (e :: es) δ μ fun xs μ1 => cld Γ (.type T) xs δ μ1 Q) (hg : Gl Γ.X x := by rfl)
    (hn : x ≠ "__name__" := by decide +kernel) (hdb : (x == ("__debug__" : Str)) = false := by decide +kernel)
    (he : starEach (e :: es) Γ.X.env = (false, eval e Γ.X.env) :: starEach es Γ.X.env := by rfl) (hpl : (backTo pos (starEach es Γ.X.env)).any (·.1) = false := by rfl) : ed Γ (.Call (.Name x p) (e :: es) [] pos) δ μ Q := fun F σ H at_ =>
  we_of (pe_callTy rcf_ok hg hm hv pa_wa hn hdb he hpl) (wa_mono (h F σ H at_) fun vs H1 ⟨F1, d1, μ1, s1, h1, r1, q1⟩ => rcf_mono (q1 F1 σ H1 vs h1 r1) fun v H' z => PostE.up s1 z)
/-- a[b] -/
def rxf (X : Cx) : R2 := fun x y H Q => ∀ (value slice : Expr) (pins : List (Addr × Obj)) (s : Shared) (σ : L2.St) (v u : Value), Inv X pins σ H s → RelV x v → RelV y u →
    subscripted slice false v u = operate [v, u] (getItem v u) → wpAny (model X.prog X.w) X.A (subscriptTail value slice v u) (EP X pins σ Q) X.xe s
theorem rxf_ok {X : Cx} : IxR X (rxf X) := fun value slice pins s σ H x y v u Q I rx ry h hs => h value slice pins s σ v u I rx ry hs
theorem rxf_mono {X : Cx} {x y : V} {H : Hp} {Q Q' : VK} (h : rxf X x y H Q) (k : ∀ v H', Q v H' → Q' v H') : rxf X x y H Q' := fun va sl pins s σ v u I rx ry hs => thn (h va sl pins s σ v u I rx ry hs) fun _ _ e => EP_mono e k
def ixd (Γ : Ct) (x y : D) (δ : Dl) (μ : Mu) (Q : D → Mu → Prop) : Prop := ∀ F σ H vx vy, At Γ F δ μ σ H → Dp Γ.X.K F x vx → Dp Γ.X.K F y vy → rxf Γ.X vx vy H (PostE Γ F δ σ Q)
theorem ed_ix (h : ed Γ a δ μ fun x μ1 => ed Γ b δ μ1 fun y μ2 => ixd Γ x y δ μ2 Q) (hs : PlainIx b := by exact fun _ _ => rfl) : ed Γ (.Subscript a b pos) δ μ Q := fun F σ H at_ => we_of (pe_ix rxf_ok pe_we pe_we hs) (by
  refine we_mono (h F σ H at_) fun x H1 ⟨F1, d1, μ1, s1, h1, r1, q1⟩ => ?_
  refine we_mono (q1 F1 σ H1 h1) fun y H2 ⟨F2, d2, μ2, s2, h2, r2, q2⟩ => ?_
  exact rxf_mono (q2 F2 σ H2 x y h2 (r1.mono s2) r2) fun v H' z => PostE.up (s1.trans s2) z)
def eo (Γ : Ct) (e : Option Expr) (δ : Dl) (μ : Mu) (Q : Option Int → Mu → Prop) : Prop := match e with
  | none => Q none μ
  | some e => ed Γ e δ μ fun d μ' => ∃ i, d = .int i ∧ Q (some i) μ'
def sld (Γ : Ct) (r : V → Option Int → Option Int → Hp → VK → Prop) (x : D) (lo hi : Option Int) (δ : Dl) (μ : Mu) (Q : D → Mu → Prop) : Prop := ∀ F σ H vx, At Γ F δ μ σ H → Dp Γ.X.K F x vx → r vx lo hi H (PostE Γ F δ σ Q)
def tOptE (X : Cx) : Option Expr → TO
  | none => tNoPart
  | some e => tPart (we X e)
theorem po_opt {X : Cx} : ∀ e : Option Expr, PO X e (tOptE X e)
  | none => po_none
  | some _ => po_some pe_we
theorem eo_run {o : Option Expr} {Q : Option Int → Mu → Prop} (h : eo Γ o δ μ Q) (F σ H) (at_ : At Γ F δ μ σ H) {R : Option Int → Hp → Prop} (k : ∀ i F' H' μ', Same F F' → At Γ F' δ μ' σ H' → Q i μ' → R i H') : tOptE Γ.X o σ H R := by
  cases o with
  | none => exact k _ F H μ (Same.refl F) at_ h
  | some e =>
    refine we_mono (h F σ H at_) fun x H1 ⟨F1, d1, μ1, s1, h1, r1, i, e1, q1⟩ => ?_
    subst e1
    rw [Dp] at r1
    exact ⟨i, r1, k _ F1 H1 μ1 s1 h1 q1⟩
theorem ed_slice {lo hi : Option Expr} {p2 : Pos} {r : V → Option Int → Option Int → Hp → VK → Prop} (hr : SlR Γ.X r) (hmono : ∀ x l u H Q Q', (∀ v H', Q v H' → Q' v H') → r x l u H Q → r x l u H Q')
    (h : ed Γ a δ μ fun x μ1 => eo Γ lo δ μ1 fun l μ2 => eo Γ hi δ μ2 fun u μ3 => sld Γ r x l u δ μ3 Q) : ed Γ (.Subscript a (.Slice lo hi none p2) pos) δ μ Q := fun F σ H at_ => by
  refine we_of (pe_slice hr pe_we (po_opt lo) (po_opt hi)) (we_mono (h F σ H at_) fun x H1 ⟨F1, d1, μ1, s1, h1, r1, q1⟩ => ?_)
  refine eo_run q1 F1 σ H1 h1 fun l F2 H2 μ2 s2 h2 q2 => ?_
  refine eo_run q2 F2 σ H2 h2 fun u F3 H3 μ3 s3 h3 q3 => ?_
  exact hmono _ _ _ _ _ _ (fun v H' z => PostE.up ((s1.trans s2).trans s3) z) (q3 F3 σ H3 x h3 ((r1.mono s2).mono s3))
/-- o.m(..) of a built-in type -/
def rmf (X : Cx) (id : String) : V → List V → Hp → VK → Prop := fun x xs H Q => ∀ (pins : List (Addr × Obj)) (s : Shared) (σ : L2.St) (v : Value) (us : List Value), Inv X pins σ H s → RelV x v → Vals xs us → wpAny (model X.prog X.w) X.A (call (.builtin id) (v :: us)) (EP X pins σ Q) X.xe s
theorem rmf_ok {X : Cx} {id : String} : MtR X id (rmf X id) := fun pins s σ H x xs v us Q I rx rs h => h pins s σ v us I rx rs
theorem rmf_mono {X : Cx} {id : String} {x : V} {xs : List V} {H : Hp} {Q Q' : VK} (h : rmf X id x xs H Q) (k : ∀ v H', Q v H' → Q' v H') : rmf X id x xs H Q' := fun pins s σ v us I rx rs => thn (h pins s σ v us I rx rs) fun _ _ e => EP_mono e k
/-- the receiver's type, over data -/
def tyD (T : String) (x : D) (μ : Mu) : Prop := match x with
  | .str _ => T = "str"
  | .lst _ => T = "list"
  | .dK _ _ => T = "dict"
  | .ref p => (∃ ds, (p, Cell.lst ds) ∈ μ ∧ T = "list") ∨ (∃ ks ds, (p, Cell.dK ks ds) ∈ μ ∧ T = "dict") ∨ (∃ ks ds, (p, Cell.dT ks ds) ∈ μ ∧ T = "dict") ∨ (∃ S n, (p, Cell.set S n) ∈ μ ∧ T = "set")
  | _ => False
def mtd (Γ : Ct) (id : String) (x : D) (xs : List D) (δ : Dl) (μ : Mu) (Q : D → Mu → Prop) : Prop := ∀ F σ H vx vs, At Γ F δ μ σ H → Dp Γ.X.K F x vx → Dps Γ.X.K F xs vs → rmf Γ.X id vx vs H (PostE Γ F δ σ Q)
/-- a bool as a test -/
theorem et_val {Q : Bool → Mu → Prop} (h : ed Γ e δ μ fun d μ' => ∃ c, d = .bl c ∧ Q c μ') (he : ∀ whole, isTrue e Γ.X.env whole = (do let v ← whole; standAt e.pos; holding [v] (truthy v)) := by intro _; rfl) : et Γ e δ μ Q := fun F σ H at_ => by
  refine wt_of (pt_val pe_we he) (we_mono (h F σ H at_) fun v H' ⟨F', d, μ', s, a', rr, c, e1, q⟩ => ?_)
  subst e1
  rw [Dp] at rr
  exact ⟨c, rr, F', μ', s, a', q⟩
theorem et_not {Q : Bool → Mu → Prop} (h : et Γ e δ μ fun c μ' => Q (!c) μ') : et Γ (.UnaryOp .Not e pos) δ μ Q := fun F σ H at_ => wt_of (pt_not pt_wt) (wt_mono (h F σ H at_) fun c H' ⟨F', μ', s, a', q⟩ => ⟨F', μ', s, a', q⟩)
theorem ew_and1 {Q : Bool → Mu → Prop} (h : et Γ e δ μ Q) : ew Γ (.BoolOp .And [e] pos) δ μ Q := fun F σ H at_ => ww_of (pw_and1 pt_wt) (h F σ H at_)
theorem ew_or1 {Q : Bool → Mu → Prop} (h : et Γ e δ μ Q) : ew Γ (.BoolOp .Or [e] pos) δ μ Q := fun F σ H at_ => ww_of (pw_or1 pt_wt) (h F σ H at_)
theorem ew_and {rest : List Expr} {Q : Bool → Mu → Prop} (h : et Γ a δ μ fun c μ' => if c = true then ew Γ (.BoolOp .And (b :: rest) pos) δ μ' Q else Q false μ') : ew Γ (.BoolOp .And (a :: b :: rest) pos) δ μ Q := fun F σ H at_ => by
  refine ww_of (pw_and pt_wt pw_ww) (wt_mono (h F σ H at_) fun c H' ⟨F', μ', s, a', q⟩ => ?_)
  cases c with
  | true =>
    rw [if_pos rfl] at q ⊢
    exact ww_mono (q F' σ H' a') fun c H2 z => z.up s
  | false =>
    rw [if_neg Bool.false_ne_true] at q ⊢
    exact ⟨F', μ', s, a', q⟩
theorem ew_or {rest : List Expr} {Q : Bool → Mu → Prop} (h : et Γ a δ μ fun c μ' => if c = true then Q true μ' else ew Γ (.BoolOp .Or (b :: rest) pos) δ μ' Q) : ew Γ (.BoolOp .Or (a :: b :: rest) pos) δ μ Q := fun F σ H at_ => by
  refine ww_of (pw_or pt_wt pw_ww) (wt_mono (h F σ H at_) fun c H' ⟨F', μ', s, a', q⟩ => ?_)
  cases c with
  | true =>
    rw [if_pos rfl] at q ⊢
    exact ⟨F', μ', s, a', q⟩
  | false =>
    rw [if_neg Bool.false_ne_true] at q ⊢
    exact ww_mono (q F' σ H' a') fun c H2 z => z.up s
theorem et_ew {Q : Bool → Mu → Prop} (h : ew Γ e δ μ Q) : et Γ e δ μ Q := fun F σ H at_ => wt_of pw_ww.pt (h F σ H at_)
/-- and, or, not as values of bools -/
theorem ed_one {op} (h : ed Γ a δ μ Q) : ed Γ (.BoolOp op [a] pos) δ μ Q := fun F σ H at_ => we_of (pe_one pe_we) (h F σ H at_)
theorem ed_and {rest : List Expr} (h : ed Γ a δ μ fun d μ' => ∃ c, d = .bl c ∧ if c = true then ed Γ (.BoolOp .And (b :: rest) pos) δ μ' Q else Q (.bl false) μ') : ed Γ (.BoolOp .And (a :: b :: rest) pos) δ μ Q := fun F σ H at_ => by
  refine we_of (pe_and pe_we pe_we) (we_mono (h F σ H at_) fun v H' ⟨F', d, μ', s, a', rr, c, e1, q⟩ => ?_)
  subst e1
  rw [Dp] at rr
  refine ⟨c, rr, ?_⟩
  cases c with
  | true =>
    rw [if_pos rfl] at q ⊢
    exact we_mono (q F' σ H' a') fun c H2 z => z.up s
  | false =>
    rw [if_neg Bool.false_ne_true] at q ⊢
    exact ⟨F', _, μ', s, a', by rw [Dp], q⟩
theorem ed_or {rest : List Expr} (h : ed Γ a δ μ fun d μ' => ∃ c, d = .bl c ∧ if c = true then Q (.bl true) μ' else ed Γ (.BoolOp .Or (b :: rest) pos) δ μ' Q) : ed Γ (.BoolOp .Or (a :: b :: rest) pos) δ μ Q := fun F σ H at_ => by
  refine we_of (pe_or pe_we pe_we) (we_mono (h F σ H at_) fun v H' ⟨F', d, μ', s, a', rr, c, e1, q⟩ => ?_)
  subst e1
  rw [Dp] at rr
  refine ⟨c, rr, ?_⟩
  cases c with
  | true =>
    rw [if_pos rfl] at q ⊢
    exact ⟨F', _, μ', s, a', by rw [Dp], q⟩
  | false =>
    rw [if_neg Bool.false_ne_true] at q ⊢
    exact we_mono (q F' σ H' a') fun c H2 z => z.up s
theorem ed_not (h : ed Γ a δ μ fun d μ' => ∃ c, d = .bl c ∧ Q (.bl (!c)) μ') : ed Γ (.UnaryOp .Not a pos) δ μ Q := fun F σ H at_ => by
  refine we_of (pe_not pe_we) (we_mono (h F σ H at_) fun v H' ⟨F', d, μ', s, a', rr, c, e1, q⟩ => ?_)
  subst e1
  rw [Dp] at rr
  exact ⟨c, rr, F', _, μ', s, a', by rw [Dp], q⟩
theorem ed_if {c : Expr} (h : et Γ c δ μ fun k μ' => if k = true then ed Γ a δ μ' Q else ed Γ b δ μ' Q) : ed Γ (.IfExp c a b pos) δ μ Q := fun F σ H at_ => by
  refine we_of (pe_ifExp pt_wt pe_we pe_we) (wt_mono (h F σ H at_) fun k H' ⟨F', μ', s, a', q⟩ => ?_)
  cases k with
  | true =>
    rw [if_pos rfl] at q ⊢
    exact we_mono (q F' σ H' a') fun c H2 z => z.up s
  | false =>
    rw [if_neg Bool.false_ne_true] at q ⊢
    exact we_mono (q F' σ H' a') fun c H2 z => z.up s
/-! ### arguments, displays -/
theorem ea_nil {Q : List D → Mu → Prop} (q : Q [] μ) : ea Γ [] δ μ Q := fun F σ H at_ => wa_of pa_nil ⟨F, [], μ, Same.refl F, at_, Dps.nil, q⟩
theorem ea_cons {es : List Expr} {Q : List D → Mu → Prop} (h : ed Γ e δ μ fun d μ1 => ea Γ es δ μ1 fun ds μ2 => Q (d :: ds) μ2) (hs : starEach (e :: es) Γ.X.env = (false, eval e Γ.X.env) :: starEach es Γ.X.env := by rfl) : ea Γ (e :: es) δ μ Q := fun F σ H at_ => by
  refine wa_of (pa_cons pe_we pa_wa hs) (we_mono (h F σ H at_) fun v H1 ⟨F1, d, μ1, s1, a1, r1, q1⟩ => ?_)
  refine wa_mono (q1 F1 σ H1 a1) fun vs H2 ⟨F2, ds, μ2, s2, a2, r2, q2⟩ => ?_
  exact ⟨F2, d :: ds, μ2, s1.trans s2, a2, Dps.cons (r1.mono s2) r2, q2⟩
theorem ed_tup {es : List Expr} {k} (h : ea Γ es δ μ fun ds μ' => ds.length ≤ 1000 ∧ Q (.tup ds) μ') : ed Γ (.Tuple es k pos) δ μ Q := fun F σ H at_ => by
  refine we_of (pe_tup pa_wa) (wa_mono (h F σ H at_) fun vs H1 ⟨F1, ds, μ1, s1, a1, r1, l, q1⟩ => ⟨?_, fun p hp => ?_⟩)
  · rw [← r1.length]; exact Nat.le_of_lt (small1000 l)
  · refine PostE.up s1 (PostE.new a1 hp ?_ q1)
    rw [Dp]
    exact ⟨p, vs, rfl, .inl (.inl upd_same), r1.mono (same_upd (a1.sx.sub.free hp))⟩
theorem ed_lst {es : List Expr} (h : ea Γ es δ μ fun ds μ' => ds.length ≤ 1000 ∧ Q (.lst ds) μ') : ed Γ (.List es pos) δ μ Q := fun F σ H at_ => by
  refine we_of (pe_lst pa_wa) (wa_mono (h F σ H at_) fun vs H1 ⟨F1, ds, μ1, s1, a1, r1, l, q1⟩ => ⟨?_, fun p hp => ?_⟩)
  · rw [← r1.length]; exact Nat.le_of_lt (small1000 l)
  · refine PostE.up s1 (PostE.new a1 hp ?_ q1)
    rw [Dp]
    exact ⟨p, vs, rfl, upd_same, r1.mono (same_upd (a1.sx.sub.free hp))⟩
/-- an owned list -/
theorem ed_lstO {es : List Expr} (h : ea Γ es δ μ fun ds μ' => ds.length ≤ 1000 ∧ ∀ p, Q (.ref p) ((p, .lst ds) :: μ')) : ed Γ (.List es pos) δ μ Q := fun F σ H at_ => by
  refine we_of (pe_lst pa_wa) (wa_mono (h F σ H at_) fun vs H1 ⟨F1, ds, μ1, s1, a1, r1, l, q1⟩ => ⟨?_, fun p hp => ?_⟩)
  · rw [← r1.length]; exact Nat.le_of_lt (small1000 l)
  · exact PostE.up s1 (PostE.own (c := .lst ds) a1 hp ⟨vs, upd_same, r1⟩ (q1 p))
end
/-! ### statements -/
section
variable {Γ : Ct} {δ : Dl} {μ : Mu} {E : En} {pos : Pos} {e : Expr} {st : Stmt} {rest : List Stmt}
theorem sds_nil (q : E.nx δ μ) : sds Γ [] δ μ E := fun F σ H a => wss_of pss_nil ⟨F, δ, μ, Same.refl F, a, q⟩
theorem sds_cons (h : sd Γ st δ μ { E with nx := fun δ' μ' => sds Γ rest δ' μ' E }) : sds Γ (st :: rest) δ μ E := fun F σ H a => by
  refine wss_of (pss_cons ps_ws pss_wss) (ws_mono (h F σ H a) ⟨fun σ' H' z => ?_, fun _ _ z => z, fun _ _ z => z, fun _ _ z => z⟩)
  obtain ⟨F', δ', μ', s, a', q⟩ := z
  exact wss_mono (q F' σ' H' a') (En.up s)
theorem sd_pass (q : E.nx δ μ) : sd Γ (.Pass pos) δ μ E := fun F σ H a => ws_of ps_pass ⟨F, δ, μ, Same.refl F, a, q⟩
theorem sd_doc {x j pos'} (q : E.nx δ μ) : sd Γ (.Expr (.Constant (.str x) j pos) pos') δ μ E := fun F σ H a => ws_of ps_doc ⟨F, δ, μ, Same.refl F, a, q⟩
theorem sd_expr (h : ed Γ e δ μ fun _ μ' => E.nx δ μ') (hs : swapsWith e none pos.line Γ.X.env = pure false := by rfl) : sd Γ (.Expr e pos) δ μ E := fun F σ H a =>
  ws_of (ps_expr pe_we hs) (we_mono (h F σ H a) fun v H' ⟨F', d, μ', s, a', r, q⟩ => ⟨F', δ, μ', s, a', q⟩)
theorem sd_ret (h : ed Γ e δ μ E.rt) : sd Γ (.Return (some e) pos) δ μ E := fun F σ H a =>
  ws_of (ps_ret pe_we) (we_mono (h F σ H a) fun v H' ⟨F', d, μ', s, a', r, q⟩ => ⟨F', d, μ', s, a'.st, a'.sx, r, q⟩)
theorem sd_retN (q : E.rt .non μ) : sd Γ (.Return none pos) δ μ E := fun F σ H a => ws_of ps_retN ⟨F, .non, μ, Same.refl F, a.st, a.sx, by rw [Dp], q⟩
theorem sd_if {c : Expr} {t f : List Stmt} (h : et Γ c δ μ fun k μ' => if k = true then sds Γ t δ μ' E else sds Γ f δ μ' E) : sd Γ (.If c t f pos) δ μ E := fun F σ H a => by
  refine ws_of (ps_if pt_wt pss_wss pss_wss) (wt_mono (h F σ H a) fun k H' ⟨F', μ', s, a', q⟩ => ?_)
  cases k with
  | true =>
    rw [if_pos rfl] at q ⊢
    exact wss_mono (q F' σ H' a') (En.up s)
  | false =>
    rw [if_neg Bool.false_ne_true] at q ⊢
    exact wss_mono (q F' σ H' a') (En.up s)
theorem gd_name {i : Nat} {x : Str} {d : D} {Q : Dl → Mu → Prop} (hN : Γ.X.N.Nodup) (hi : Γ.X.N[i]? = some x) (q : Q (δ.set i (some d)) μ) (hx : Loc Γ.X.env.scope x := by first | exact .inl rfl | exact .inr rfl)
    (hf : Γ.X.fn x = true ∨ Γ.X.env.scope.names.lookup x = some .local := by first | exact .inl rfl | exact .inr rfl | assumption) : gd Γ (.Name x pos) d δ μ Q := fun F σ H v a r =>
  wg_of (pg_name hN hi hx hf) ⟨F, _, μ, Same.refl F, a.fr_set i r, q⟩
theorem gds_nil {Q : Dl → Mu → Prop} (q : Q δ μ) : gds Γ [] [] δ μ Q := fun F σ H vs a r => wgs_of pgs_nil ⟨r.unnil, F, δ, μ, Same.refl F, a, q⟩
theorem gds_cons {es : List Expr} {d : D} {ds : List D} {Q : Dl → Mu → Prop} (h : gd Γ e d δ μ fun δ' μ' => gds Γ es ds δ' μ' Q) (hs : (assignEach (e :: es) Γ.X.env).map (·.2) = assign e Γ.X.env :: (assignEach es Γ.X.env).map (·.2) := by rfl) :
    gds Γ (e :: es) (d :: ds) δ μ Q := fun F σ H vs a r => by
  obtain ⟨v, ws', rfl, r1, r2⟩ := r.uncons
  refine wgs_of (pgs_cons pg_wg pgs_wgs hs) ⟨v, ws', rfl, wg_mono (h F σ H v a r1) fun σ1 H1 ⟨F1, δ1, μ1, s1, a1, q1⟩ => ?_⟩
  exact wgs_mono (q1 F1 σ1 H1 ws' a1 (r2.mono s1)) fun σ2 H2 z => z.up s1
theorem gd_tup {es : List Expr} {k : Nat} {ds : List D} {n : Nat} {Q : Dl → Mu → Prop} (hc : Γ.X.calm = true) (h : ds.length = n ∧ gds Γ es ds δ μ Q) (hn : (assignEach es Γ.X.env).length = n := by rfl) (hst : (assignEach es Γ.X.env).findIdx? (·.1) = none := by rfl) :
    gd Γ (.Tuple es k pos) (.tup ds) δ μ Q := fun F σ H v a r => by
  rw [Dp] at r
  obtain ⟨p, vs, rfl, hq, r⟩ := r
  exact wg_of (pg_tup hc pgs_wgs hn hst) ⟨p, vs, rfl, Same.sqT a.sx.sub hq, by rw [← r.length]; exact h.1, h.2 F σ H vs a r⟩
theorem sd_asg {tg : Expr} (h : ed Γ e δ μ fun d μ' => gd Γ tg d δ μ' E.nx) (hs : swapsWithSole [tg] e pos.line Γ.X.env = pure false := by rfl) (hw : swappedStores [tg] e Γ.X.env = pure none := by rfl)
    (h1 : (assignEach [tg] Γ.X.env).map (·.2) = [assign tg Γ.X.env] := by rfl) : sd Γ (.Assign [tg] e pos) δ μ E := fun F σ H a =>
  ws_of (ps_asg pe_we pg_wg hs hw h1) (we_mono (h F σ H a) fun v H' ⟨F', d, μ', s, a', r, q⟩ => wg_mono (q F' σ H' v a' r) fun σ2 H2 z => z.up s)
theorem sd_set {i : Nat} {x : Str} {pos' : Pos} (hN : Γ.X.N.Nodup) (hi : Γ.X.N[i]? = some x) (h : ed Γ e δ μ fun d μ' => E.nx (δ.set i (some d)) μ') (hs : swapsWith e (some (.Name x pos')) pos.line Γ.X.env = pure false := by rfl)
    (hx : Loc Γ.X.env.scope x := by first | exact .inl rfl | exact .inr rfl) (hf : Γ.X.fn x = true ∨ Γ.X.env.scope.names.lookup x = some .local := by first | exact .inl rfl | exact .inr rfl | assumption) : sd Γ (.Assign [.Name x pos'] e pos) δ μ E := fun F σ H a =>
  ws_of (ps_set hN hi hx pe_we hs hf) (we_mono (h F σ H a) fun v H' ⟨F', d, μ', s, a', r, q⟩ => ⟨F', _, μ', s, a'.fr_set i r, q⟩)
end
end PD
/-! PD3: operators, built-ins, methods over data. -/
namespace PD
open PySem PySem.Spec PyProof.Rows L2
section
variable {Γ : Ct} {δ : Dl} {μ : Mu} {Q : D → Mu → Prop} {x y : D}
theorem opd_of {f : Value → Value → Sem Value} {r : R2} (ho : OpR Γ.X f r) (h : ∀ F σ H vx vy, At Γ F δ μ σ H → Dp Γ.X.K F x vx → Dp Γ.X.K F y vy → r vx vy H (PostE Γ F δ σ Q)) : opd Γ f x y δ μ Q :=
  fun F σ H vx vy a r1 r2 pins s σ' v u I q1 q2 => ho pins s σ' H vx vy v u _ I q1 q2 (h F σ H vx vy a r1 r2)
theorem cld_of {f : Value} {xs : List D} {r : List V → Hp → VK → Prop} (ho : CallR Γ.X f r) (h : ∀ F σ H vs, At Γ F δ μ σ H → Dps Γ.X.K F xs vs → r vs H (PostE Γ F δ σ Q)) : cld Γ f xs δ μ Q :=
  fun F σ H vs a r1 pins s σ' us I q1 => ho pins s σ' H vs us _ I q1 (h F σ H vs a r1)
theorem und_of {f : Value → Sem Value} {r : V → Hp → VK → Prop} (ho : UnR Γ.X f r) (h : ∀ F σ H vx, At Γ F δ μ σ H → Dp Γ.X.K F x vx → r vx H (PostE Γ F δ σ Q)) : und Γ f x δ μ Q :=
  fun F σ H vx a r1 pins s σ' v I q1 => ho pins s σ' H vx v _ I q1 (h F σ H vx a r1)
theorem ixd_of {r : R2} (ho : IxR Γ.X r) (h : ∀ F σ H vx vy, At Γ F δ μ σ H → Dp Γ.X.K F x vx → Dp Γ.X.K F y vy → r vx vy H (PostE Γ F δ σ Q)) : ixd Γ x y δ μ Q :=
  fun F σ H vx vy a r1 r2 va sl pins s σ' v u I q1 q2 hs => ho va sl pins s σ' H vx vy v u _ I q1 q2 (h F σ H vx vy a r1 r2) hs
theorem mtd_of {id : String} {xs : List D} {r : V → List V → Hp → VK → Prop} (ho : MtR Γ.X id r) (h : ∀ F σ H vx vs, At Γ F δ μ σ H → Dp Γ.X.K F x vx → Dps Γ.X.K F xs vs → r vx vs H (PostE Γ F δ σ Q)) : mtd Γ id x xs δ μ Q :=
  fun F σ H vx vs a r1 r2 pins s σ' v us I q1 q2 => ho pins s σ' H vx vs v us _ I q1 q2 (h F σ H vx vs a r1 r2)
theorem dpI {K : PySem.W.Frag} {F : Hp} {i : Int} {v : V} (h : Dp K F (.int i) v) : v = .int i := by rw [Dp] at h; exact h
theorem dpB {K : PySem.W.Frag} {F : Hp} {i : Bool} {v : V} (h : Dp K F (.bl i) v) : v = .bl i := by rw [Dp] at h; exact h
theorem dpS {K : PySem.W.Frag} {F : Hp} {i : Str} {v : V} (h : Dp K F (.str i) v) : v = .str i := by rw [Dp] at h; exact h
theorem dpN {K : PySem.W.Frag} {F : Hp} {v : V} (h : Dp K F .non v) : v = .non := by rw [Dp] at h; exact h
theorem dpR {K : PySem.W.Frag} {F : Hp} {i : Addr} {v : V} (h : Dp K F (.ref i) v) : v = .ref i := by rw [Dp] at h; exact h
theorem dpL {K : PySem.W.Frag} {F : Hp} {ds : List D} {v : V} (h : Dp K F (.lst ds) v) : ∃ a vs, v = .ref a ∧ F a = some (.lst vs) ∧ Dps K F ds vs := by rw [Dp] at h; exact h
theorem dpRl {K : PySem.W.Frag} {F : Hp} {ds : List D} {v : V} (h : Dp K F (.rl ds) v) : ∃ a vs, v = .ref a ∧ SqL K F a vs ∧ Dps K F ds vs := by rw [Dp] at h; exact h
theorem dpT {K : PySem.W.Frag} {F : Hp} {ds : List D} {v : V} (h : Dp K F (.tup ds) v) : ∃ a vs, v = .ref a ∧ SqT K F a vs ∧ Dps K F ds vs := by rw [Dp] at h; exact h
theorem dpi {K : PySem.W.Frag} {F : Hp} {i : Int} : Dp K F (.int i) (.int i) := by rw [Dp]
theorem dpb {K : PySem.W.Frag} {F : Hp} {i : Bool} : Dp K F (.bl i) (.bl i) := by rw [Dp]
theorem dps {K : PySem.W.Frag} {F : Hp} {i : Str} : Dp K F (.str i) (.str i) := by rw [Dp]
theorem dpn {K : PySem.W.Frag} {F : Hp} : Dp K F .non .non := by rw [Dp]
theorem dpr {K : PySem.W.Frag} {F : Hp} {a : Addr} : Dp K F (.ref a) (.ref a) := by rw [Dp]
theorem dpl {K : PySem.W.Frag} {F : Hp} {a : Addr} {ds : List D} {vs : List V} (h : F a = some (.lst vs)) (r : Dps K F ds vs) : Dp K F (.lst ds) (.ref a) := by rw [Dp]; exact ⟨a, vs, rfl, h, r⟩
theorem dpt {K : PySem.W.Frag} {F : Hp} {a : Addr} {ds : List D} {vs : List V} (h : SqT K F a vs) (r : Dps K F ds vs) : Dp K F (.tup ds) (.ref a) := by rw [Dp]; exact ⟨a, vs, rfl, h, r⟩
theorem Dps.one {K : PySem.W.Frag} {F : Hp} {d : D} {vs : List V} (h : Dps K F [d] vs) : ∃ v, vs = [v] ∧ Dp K F d v := by
  obtain ⟨v, ws, rfl, h1, h2⟩ := h.uncons
  rw [h2.unnil]; exact ⟨v, rfl, h1⟩
theorem Dps.two {K : PySem.W.Frag} {F : Hp} {d e : D} {vs : List V} (h : Dps K F [d, e] vs) : ∃ v w, vs = [v, w] ∧ Dp K F d v ∧ Dp K F e w := by
  obtain ⟨v, ws, rfl, h1, h2⟩ := h.uncons
  obtain ⟨w, rfl, h3⟩ := h2.one; exact ⟨v, w, rfl, h1, h3⟩
/-! ### ints -/
theorem opd_I0 {f : Value → Value → Sem Value} {g : Int → Int → Int} {i j : Int} (ho : OpR Γ.X f (rI0 fun i j => .int (g i j))) (q : Q (.int (g i j)) μ) : opd Γ f (.int i) (.int j) δ μ Q := opd_of ho fun F σ H vx vy a r1 r2 => by
  rw [dpI r1, dpI r2]; exact ⟨i, j, rfl, rfl, PostE.here a dpi q⟩
theorem opd_I {f : Value → Value → Sem Value} {C : Int → Int → Prop} {g : Int → Int → Int} {i j : Int} (ho : OpR Γ.X f (rI C fun i j => .int (g i j))) (c : C i j) (q : Q (.int (g i j)) μ) : opd Γ f (.int i) (.int j) δ μ Q := opd_of ho fun F σ H vx vy a r1 r2 => by
  rw [dpI r1, dpI r2]; exact ⟨i, j, rfl, rfl, c, PostE.here a dpi q⟩
theorem opd_IB {f : Value → Value → Sem Value} {g : Int → Int → Bool} {i j : Int} (ho : OpR Γ.X f (rI0 fun i j => .bl (g i j))) (q : Q (.bl (g i j)) μ) : opd Γ f (.int i) (.int j) δ μ Q := opd_of ho fun F σ H vx vy a r1 r2 => by
  rw [dpI r1, dpI r2]; exact ⟨i, j, rfl, rfl, PostE.here a dpb q⟩
theorem opd_add {i j : Int} (q : Q (.int (i + j)) μ) : opd Γ (binaryOp .Add) (.int i) (.int j) δ μ Q := opd_I0 (g := fun i j => i + j) op_add q
theorem opd_sub {i j : Int} (q : Q (.int (i - j)) μ) : opd Γ (binaryOp .Sub) (.int i) (.int j) δ μ Q := opd_I0 (g := fun i j => i - j) op_sub q
theorem opd_mul {i j : Int} (c : CMul i j) (q : Q (.int (i * j)) μ) : opd Γ (binaryOp .Mult) (.int i) (.int j) δ μ Q := opd_I (g := fun i j => i * j) op_mul c q
theorem opd_mod {i j : Int} (c : 0 < j) (q : Q (.int (i % j)) μ) : opd Γ (binaryOp .Mod) (.int i) (.int j) δ μ Q := opd_I (g := fun i j => i % j) op_mod c q
theorem opd_fdiv {i j : Int} (c : 0 < j ∧ j < 1073741824) (q : Q (.int (i / j)) μ) : opd Γ (binaryOp .FloorDiv) (.int i) (.int j) δ μ Q := opd_I (g := fun i j => i / j) op_fdiv c q
theorem opd_pow {i j : Int} (c : 0 ≤ j ∧ j ≤ 1000000 ∧ i.natAbs < 2 ^ 64) (q : Q (.int (i ^ j.toNat)) μ) : opd Γ (binaryOp .Pow) (.int i) (.int j) δ μ Q := opd_I (g := fun i j => i ^ j.toNat) op_pow c q
theorem opd_lt {i j : Int} (q : Q (.bl (decide (i < j))) μ) : opd Γ (compareOp .Lt) (.int i) (.int j) δ μ Q := opd_IB (g := fun i j => decide (i < j)) op_lt q
theorem opd_le {i j : Int} (q : Q (.bl (decide (i ≤ j))) μ) : opd Γ (compareOp .LtE) (.int i) (.int j) δ μ Q := opd_IB (g := fun i j => decide (i ≤ j)) op_le q
theorem opd_gt {i j : Int} (q : Q (.bl (decide (j < i))) μ) : opd Γ (compareOp .Gt) (.int i) (.int j) δ μ Q := opd_IB (g := fun i j => decide (j < i)) op_gt q
theorem opd_ge {i j : Int} (q : Q (.bl (decide (j ≤ i))) μ) : opd Γ (compareOp .GtE) (.int i) (.int j) δ μ Q := opd_IB (g := fun i j => decide (j ≤ i)) op_ge q
theorem und_neg {i : Int} (q : Q (.int (-i)) μ) : und Γ (unaryOp .USub) (.int i) δ μ Q := und_of un_neg fun F σ H vx a r1 => by
  rw [dpI r1]; exact ⟨i, rfl, PostE.here a dpi q⟩
/-! ### == of scalars -/
theorem opd_eqI {i j : Int} (q : Q (.bl (decide (i = j))) μ) : opd Γ (compareOp .Eq) (.int i) (.int j) δ μ Q := opd_of op_eq fun F σ H vx vy a r1 r2 => by
  rw [dpI r1, dpI r2]
  refine ⟨rfl, PostE.here a (d := .bl _) dpb ?_⟩
  rw [dec_int]
  have e : (i == j) = decide (i = j) := rfl
  rw [e]; exact q
theorem opd_neI {i j : Int} (q : Q (.bl (!decide (i = j))) μ) : opd Γ (compareOp .NotEq) (.int i) (.int j) δ μ Q := opd_of op_ne fun F σ H vx vy a r1 r2 => by
  rw [dpI r1, dpI r2]
  refine ⟨rfl, PostE.here a (d := .bl _) dpb ?_⟩
  rw [dec_int]
  have e : (i == j) = decide (i = j) := rfl
  rw [e]; exact q
theorem opd_eqS {i j : Str} (q : Q (.bl (decide (i = j))) μ) : opd Γ (compareOp .Eq) (.str i) (.str j) δ μ Q := opd_of op_eq fun F σ H vx vy a r1 r2 => by
  rw [dpS r1, dpS r2]
  refine ⟨rfl, PostE.here a (d := .bl _) dpb ?_⟩
  have e : decide (V.str i = V.str j) = decide (i = j) := by
    by_cases h : i = j
    · subst h; simp
    · rw [decide_eq_false h, decide_eq_false fun z => h (V.str.inj z)]
  rw [e]; exact q
theorem opd_neS {i j : Str} (q : Q (.bl (!decide (i = j))) μ) : opd Γ (compareOp .NotEq) (.str i) (.str j) δ μ Q := opd_of op_ne fun F σ H vx vy a r1 r2 => by
  rw [dpS r1, dpS r2]
  refine ⟨rfl, PostE.here a (d := .bl _) dpb ?_⟩
  have e : decide (V.str i = V.str j) = decide (i = j) := by
    by_cases h : i = j
    · subst h; simp
    · rw [decide_eq_false h, decide_eq_false fun z => h (V.str.inj z)]
  rw [e]; exact q
/-! ### == of data -/
mutual
def D.py : D → PyData
  | .non => .none
  | .bl b => .bool b
  | .int i => .int i
  | .str x => .str x
  | .lst ds => .list (D.pys ds)
  | .rl ds => .list (D.pys ds)
  | .tup ds => .tuple (D.pys ds)
  | .ty _ => .dict []
  | .ref _ => .dict []
  | .obj _ _ _ => .dict []
  | .dK _ _ => .dict []
  | .slc _ _ _ => .dict []
def D.pys : List D → List PyData
  | [] => []
  | d :: ds => d.py :: D.pys ds
end
mutual
/-- what may be compared as data: texts in order -/
def D.ok : D → Bool
  | .non => true
  | .bl b => true
  | .int i => true
  | .str x => PyData.canLay0 (.str x)
  | .lst ds => D.oks ds
  | .rl ds => D.oks ds
  | .tup ds => D.oks ds
  | .ty _ => false
  | .ref _ => false
  | .obj _ _ _ => false
  | .dK _ _ => false
  | .slc _ _ _ => false
def D.oks : List D → Bool
  | [] => true
  | d :: ds => d.ok && D.oks ds
end
mutual
theorem D.ok_lay : ∀ {d : D}, d.ok = true → d.py.canLay0 = true
  | .non, _ => by rw [D.py, PyData.canLay0]
  | .bl _, _ => by rw [D.py, PyData.canLay0]
  | .int _, _ => by rw [D.py, PyData.canLay0]
  | .str _, h => by rw [D.ok] at h; rw [D.py]; exact h
  | .lst ds, h => by rw [D.ok] at h; rw [D.py, PyData.canLay0]; exact D.oks_lay h
  | .rl ds, h => by rw [D.ok] at h; rw [D.py, PyData.canLay0]; exact D.oks_lay h
  | .tup ds, h => by rw [D.ok] at h; rw [D.py, PyData.canLay0]; exact D.oks_lay h
  | .ty _, h => by rw [D.ok] at h; cases h
  | .ref _, h => by rw [D.ok] at h; cases h
  | .obj _ _ _, h => by rw [D.ok] at h; cases h
  | .dK _ _, h => by rw [D.ok] at h; cases h
  | .slc _ _ _, h => by rw [D.ok] at h; cases h
theorem D.oks_lay : ∀ {ds : List D}, D.oks ds = true → PyData.canLayAll0 (D.pys ds) = true
  | [], _ => by rw [D.pys, PyData.canLayAll0]
  | d :: ds, h => by
    rw [D.oks] at h
    obtain ⟨h1, h2⟩ := Bool.and_eq_true_iff.mp h
    rw [D.pys, PyData.canLayAll0, D.ok_lay h1, D.oks_lay h2]; rfl
end
mutual
theorem D.ok_dp {K : PySem.W.Frag} {F H : Hp} (s : Same F H) : ∀ {d : D} {v : V}, d.ok = true → Dp K F d v → L2.Dp K H v d.py
  | .non, v, _, r => by rw [dpN r, D.py]; exact .non
  | .bl _, v, _, r => by rw [dpB r, D.py]; exact .bl _
  | .int _, v, _, r => by rw [dpI r, D.py]; exact .int _
  | .str _, v, h, r => by rw [dpS r, D.py]; exact .str _
  | .lst ds, v, h, r => by
    obtain ⟨a, vs, rfl, h1, h2⟩ := dpL r
    rw [D.ok] at h; rw [D.py]
    exact .lst (.inl (.inl (s _ _ h1))) (D.oks_dp s h h2)
  | .rl ds, v, h, r => by
    obtain ⟨a, vs, rfl, h1, h2⟩ := dpRl r
    rw [D.ok] at h; rw [D.py]
    exact .lst (s.seq h1) (D.oks_dp s h h2)
  | .tup ds, v, h, r => by
    obtain ⟨a, vs, rfl, h1, h2⟩ := dpT r
    rw [D.ok] at h; rw [D.py]
    exact .tup (Same.sqT s h1) (D.oks_dp s h h2)
  | .ty _, _, h, _ => by rw [D.ok] at h; cases h
  | .ref _, _, h, _ => by rw [D.ok] at h; cases h
  | .obj _ _ _, _, h, _ => by rw [D.ok] at h; cases h
  | .dK _ _, _, h, _ => by rw [D.ok] at h; cases h
  | .slc _ _ _, _, h, _ => by rw [D.ok] at h; cases h
theorem D.oks_dp {K : PySem.W.Frag} {F H : Hp} (s : Same F H) : ∀ {ds : List D} {vs : List V}, D.oks ds = true → Dps K F ds vs → L2.DpAll K H vs (D.pys ds)
  | [], vs, _, r => by rw [r.unnil, D.pys]; exact .nil
  | d :: ds, vs, h, r => by
    obtain ⟨v, ws, rfl, r1, r2⟩ := r.uncons
    rw [D.oks] at h
    obtain ⟨h1, h2⟩ := Bool.and_eq_true_iff.mp h
    rw [D.pys]
    exact .cons (D.ok_dp s h1 r1) (D.oks_dp s h2 r2)
end
def eqD (x y : D) : Bool := PyData.eqv x.py y.py
/-! ### is None -/
def D.isN : D → Bool
  | .non => true
  | _ => false
theorem dp_isN {K : PySem.W.Frag} {F : Hp} {d : D} {v : V} (r : Dp K F d v) : decide (v = .non) = d.isN := by
  cases d with
  | non => rw [dpN r]; rfl
  | bl _ => rw [dpB r]; rfl
  | int _ => rw [dpI r]; rfl
  | str _ => rw [dpS r]; rfl
  | ref _ => rw [dpR r]; rfl
  | ty n => rw [Dp] at r; rw [r]; rfl
  | lst _ => obtain ⟨a, vs, rfl, _⟩ := dpL r; rfl
  | rl _ => obtain ⟨a, vs, rfl, _⟩ := dpRl r; rfl
  | tup _ => obtain ⟨a, vs, rfl, _⟩ := dpT r; rfl
  | obj _ _ _ => rw [Dp] at r; obtain ⟨a, dx, gs, rfl, _⟩ := r; rfl
  | dK _ _ => rw [Dp] at r; obtain ⟨a, dx, rfl, _⟩ := r; rfl
  | slc _ _ _ => rw [Dp] at r; obtain ⟨a, rfl, _⟩ := r; rfl
theorem opd_isN (q : Q (.bl x.isN) μ) : opd Γ (compareOp .Is) x .non δ μ Q := opd_of op_isN fun F σ H vx vy a r1 r2 => by
  rw [dpN r2]; refine ⟨rfl, PostE.here a (d := .bl _) dpb ?_⟩; rw [dp_isN r1]; exact q
theorem opd_notN (q : Q (.bl (!x.isN)) μ) : opd Γ (compareOp .IsNot) x .non δ μ Q := opd_of op_notN fun F σ H vx vy a r1 r2 => by
  rw [dpN r2]; refine ⟨rfl, PostE.here a (d := .bl _) dpb ?_⟩; rw [dp_isN r1]; exact q
/-! ### texts, lists, tuples put together -/
theorem opd_addS {i j : Str} (hl : i.length + j.length ≤ sizeLine) (q : Q (.str (i ++ j)) μ) : opd Γ (binaryOp .Add) (.str i) (.str j) δ μ Q := opd_of op_add_str fun F σ H vx vy a r1 r2 => by
  rw [dpS r1, dpS r2]; exact ⟨i, j, rfl, rfl, hl, PostE.here a dps q⟩
theorem opd_cat {xs ys : List D} (hl : xs.length + ys.length ≤ sizeLine) (q : Q (.lst (xs ++ ys)) μ) : opd Γ (binaryOp .Add) (.lst xs) (.lst ys) δ μ Q := opd_of op_cat fun F σ H vx vy a r1 r2 => by
  obtain ⟨p1, vs, rfl, h1, h2⟩ := dpL r1
  obtain ⟨p2, ws, rfl, h3, h4⟩ := dpL r2
  refine ⟨p1, p2, vs, ws, rfl, rfl, a.sx.sub _ _ h1, a.sx.sub _ _ h3, by rw [← h2.length, ← h4.length]; exact hl, fun p hp => ?_⟩
  have sF := same_upd (o := HO.lst (vs ++ ws)) (a.sx.sub.free hp)
  exact PostE.new a hp (dpl upd_same ((h2.append h4).mono sF)) q
/-! ### subscripts -/
theorem ixd_lst {xs : List D} {i : Int} {d : D} (h : atI xs i = some d) (q : Q d μ) : ixd Γ (.lst xs) (.int i) δ μ Q := ixd_of ix_list fun F σ H vx vy a r1 r2 => by
  obtain ⟨p1, vs, rfl, h1, h2⟩ := dpL r1
  rw [dpI r2]
  obtain ⟨j, e1, e2⟩ : ∃ j, ixN xs.length i = some j ∧ xs[j]? = some d := by
    unfold atI at h
    cases e : ixN xs.length i with
    | none => rw [e] at h; cases h
    | some j => rw [e] at h; exact ⟨j, rfl, h⟩
  obtain ⟨v, e3, r⟩ := h2.get e2
  exact ⟨p1, vs, i, v, rfl, rfl, .inl (.inl (a.sx.sub _ _ h1)), by unfold atI; rw [← h2.length, e1]; exact e3, PostE.here a r q⟩
theorem ixd_tup {xs : List D} {i : Int} {d : D} (h : atI xs i = some d) (q : Q d μ) : ixd Γ (.tup xs) (.int i) δ μ Q := ixd_of ix_tup fun F σ H vx vy a r1 r2 => by
  obtain ⟨p1, vs, rfl, h1, h2⟩ := dpT r1
  rw [dpI r2]
  obtain ⟨j, e1, e2⟩ : ∃ j, ixN xs.length i = some j ∧ xs[j]? = some d := by
    unfold atI at h
    cases e : ixN xs.length i with
    | none => rw [e] at h; cases h
    | some j => rw [e] at h; exact ⟨j, rfl, h⟩
  obtain ⟨v, e3, r⟩ := h2.get e2
  exact ⟨p1, vs, i, v, rfl, rfl, Same.sqT a.sx.sub h1, by unfold atI; rw [← h2.length, e1]; exact e3, PostE.here a r q⟩
/-- an owned list -/
theorem ixd_own {p : Addr} {xs : List D} {i : Int} {d : D} (hm : (p, Cell.lst xs) ∈ μ) (h : atI xs i = some d) (q : Q d μ) : ixd Γ (.ref p) (.int i) δ μ Q := ixd_of ix_list fun F σ H vx vy a r1 r2 => by
  rw [dpR r1, dpI r2]
  obtain ⟨vs, h1, h2⟩ := a.sx.cells _ hm
  obtain ⟨j, e1, e2⟩ : ∃ j, ixN xs.length i = some j ∧ xs[j]? = some d := by
    unfold atI at h
    cases e : ixN xs.length i with
    | none => rw [e] at h; cases h
    | some j => rw [e] at h; exact ⟨j, rfl, h⟩
  obtain ⟨v, e3, r⟩ := h2.get e2
  exact ⟨p, vs, i, v, rfl, rfl, .inl (.inl h1), by unfold atI; rw [← h2.length, e1]; exact e3, PostE.here a r q⟩
theorem sld_lst {xs : List D} {lo hi : Option Int} (q : Q (.lst ((xs.drop (HT.sIx xs.length 0 lo)).take (HT.sIx xs.length xs.length hi - HT.sIx xs.length 0 lo))) μ) : sld Γ (rSlL Γ.X.K) (.lst xs) lo hi δ μ Q := fun F σ H vx a r1 => by
  obtain ⟨p1, vs, rfl, h1, h2⟩ := dpL r1
  refine ⟨p1, vs, rfl, .inl (.inl (a.sx.sub _ _ h1)), fun p hp => ?_⟩
  have sF := same_upd (o := HO.lst (cutV vs lo hi)) (a.sx.sub.free hp)
  refine PostE.new a hp (dpl upd_same (Dps.mono sF ?_)) q
  unfold cutV
  rw [← h2.length]
  exact (h2.drop _).take _
theorem sld_rl {xs : List D} {lo hi : Option Int} (q : Q (.lst ((xs.drop (HT.sIx xs.length 0 lo)).take (HT.sIx xs.length xs.length hi - HT.sIx xs.length 0 lo))) μ) : sld Γ (rSlL Γ.X.K) (.rl xs) lo hi δ μ Q := fun F σ H vx a r1 => by
  obtain ⟨p1, vs, rfl, h1, h2⟩ := dpRl r1
  refine ⟨p1, vs, rfl, a.sx.sub.seq h1, fun p hp => ?_⟩
  have sF := same_upd (o := HO.lst (cutV vs lo hi)) (a.sx.sub.free hp)
  refine PostE.new a hp (dpl upd_same (Dps.mono sF ?_)) q
  unfold cutV
  rw [← h2.length]
  exact (h2.drop _).take _
theorem rSlL_mono (K : PySem.W.Frag) : ∀ x l u H Q Q', (∀ v H', Q v H' → Q' v H') → rSlL K x l u H Q → rSlL K x l u H Q' := fun x l u H Q Q' k h => by
  obtain ⟨a, xs, e, h1, h2⟩ := h
  exact ⟨a, xs, e, h1, fun p hp => k _ _ (h2 p hp)⟩
theorem sld_str {z : Str} {lo hi : Option Int} (hz : z.length ≤ sizeLine) (q : Q (.str (cutS z lo hi)) μ) : sld Γ rSlS (.str z) lo hi δ μ Q := fun F σ H vx a r1 => by
  rw [dpS r1]
  exact ⟨z, rfl, hz, PostE.here a dps q⟩
theorem rSlS_mono : ∀ x l u H Q Q', (∀ v H', Q v H' → Q' v H') → rSlS x l u H Q → rSlS x l u H Q' := fun x l u H Q Q' k h => by
  obtain ⟨a, e, h1, h2⟩ := h
  exact ⟨a, e, h1, k _ _ h2⟩
/-! ### built-ins -/
theorem cld_len_lst {xs : List D} (q : Q (.int xs.length) μ) : cld Γ (.builtin "len") [.lst xs] δ μ Q := cld_of call_len_seq fun F σ H vs a r0 => by
  obtain ⟨v, rfl, r⟩ := r0.one
  obtain ⟨p1, vs, rfl, h1, h2⟩ := dpL r
  refine ⟨p1, vs, rfl, .inl (.inl (.inl (a.sx.sub _ _ h1))), PostE.here a (d := .int _) dpi ?_⟩
  rw [← h2.length]; exact q
theorem cld_len_rl {xs : List D} (q : Q (.int xs.length) μ) : cld Γ (.builtin "len") [.rl xs] δ μ Q := cld_of call_len_seq fun F σ H vs a r0 => by
  obtain ⟨v, rfl, r⟩ := r0.one
  obtain ⟨p1, vs, rfl, h1, h2⟩ := dpRl r
  refine ⟨p1, vs, rfl, .inl (a.sx.sub.seq h1), PostE.here a (d := .int _) dpi ?_⟩
  rw [← h2.length]; exact q
theorem cld_len_tup {xs : List D} (q : Q (.int xs.length) μ) : cld Γ (.builtin "len") [.tup xs] δ μ Q := cld_of call_len_seq fun F σ H vs a r0 => by
  obtain ⟨v, rfl, r⟩ := r0.one
  obtain ⟨p1, vs, rfl, h1, h2⟩ := dpT r
  refine ⟨p1, vs, rfl, .inr (Same.sqT a.sx.sub h1), PostE.here a (d := .int _) dpi ?_⟩
  rw [← h2.length]; exact q
theorem cld_len_own {p : Addr} {xs : List D} (hm : (p, Cell.lst xs) ∈ μ) (q : Q (.int xs.length) μ) : cld Γ (.builtin "len") [.ref p] δ μ Q := cld_of call_len_seq fun F σ H vs a r0 => by
  obtain ⟨v, rfl, r⟩ := r0.one
  rw [dpR r]
  obtain ⟨vs, h1, h2⟩ := a.sx.cells _ hm
  refine ⟨p, vs, rfl, .inl (.inl (.inl h1)), PostE.here a (d := .int _) dpi ?_⟩
  rw [← h2.length]; exact q
theorem cld_len_str {z : Str} (hz : z.length ≤ sizeLine) (q : Q (.int z.length) μ) : cld Γ (.builtin "len") [.str z] δ μ Q := cld_of call_len_str fun F σ H vs a r0 => by
  obtain ⟨v, rfl, r⟩ := r0.one
  rw [dpS r]
  exact ⟨z, rfl, hz, PostE.here a dpi q⟩
theorem cld_int {i : Int} (q : Q (.int i) μ) : cld Γ (.type "int") [.int i] δ μ Q := cld_of call_int1 fun F σ H vs a r0 => by
  obtain ⟨v, rfl, r⟩ := r0.one
  rw [dpI r]; exact .inl ⟨i, rfl, PostE.here a dpi q⟩
theorem cld_abs {i : Int} (q : Q (.int (if i < 0 then -i else i)) μ) : cld Γ (.builtin "abs") [.int i] δ μ Q := cld_of call_abs fun F σ H vs a r0 => by
  obtain ⟨v, rfl, r⟩ := r0.one
  rw [dpI r]; exact ⟨i, rfl, PostE.here a dpi q⟩
theorem cld_tuple_lst {xs : List D} (q : Q (.tup xs) μ) : cld Γ (.type "tuple") [.lst xs] δ μ Q := cld_of call_tuple_of fun F σ H vs a r0 => by
  obtain ⟨v, rfl, r⟩ := r0.one
  obtain ⟨p1, vs, rfl, h1, h2⟩ := dpL r
  refine ⟨p1, vs, rfl, .inl ⟨.inl (.inl (a.sx.sub _ _ h1)), fun p hp => ?_⟩⟩
  exact PostE.new a hp (dpt (.inl (.inl upd_same)) (h2.mono (same_upd (a.sx.sub.free hp)))) q
theorem cld_tuple_tup {xs : List D} (q : Q (.tup xs) μ) : cld Γ (.type "tuple") [.tup xs] δ μ Q := cld_of call_tuple_of fun F σ H vs a r0 => by
  obtain ⟨v, rfl, r⟩ := r0.one
  obtain ⟨p1, vs, rfl, h1, h2⟩ := dpT r
  exact ⟨p1, vs, rfl, .inr ⟨Same.sqT a.sx.sub h1, PostE.here a (dpt h1 h2) q⟩⟩
theorem cld_tuple_own {p0 : Addr} {xs : List D} (hm : (p0, Cell.lst xs) ∈ μ) (q : Q (.tup xs) μ) : cld Γ (.type "tuple") [.ref p0] δ μ Q := cld_of call_tuple_of fun F σ H vs a r0 => by
  obtain ⟨v, rfl, r⟩ := r0.one
  rw [dpR r]
  obtain ⟨vs, h1, h2⟩ := a.sx.cells _ hm
  refine ⟨p0, vs, rfl, .inl ⟨.inl (.inl h1), fun p hp => ?_⟩⟩
  exact PostE.new a hp (dpt (.inl (.inl upd_same)) (h2.mono (same_upd (a.sx.sub.free hp)))) q
theorem cld_list_tup {xs : List D} (q : Q (.lst xs) μ) : cld Γ (.type "list") [.tup xs] δ μ Q := cld_of call_list_of fun F σ H vs a r0 => by
  obtain ⟨v, rfl, r⟩ := r0.one
  obtain ⟨p1, vs, rfl, h1, h2⟩ := dpT r
  refine ⟨p1, vs, rfl, .inr (Same.sqT a.sx.sub h1), fun p hp => ?_⟩
  exact PostE.new a hp (dpl upd_same (h2.mono (same_upd (a.sx.sub.free hp)))) q
theorem cld_list_lst {xs : List D} (q : Q (.lst xs) μ) : cld Γ (.type "list") [.lst xs] δ μ Q := cld_of call_list_of fun F σ H vs a r0 => by
  obtain ⟨v, rfl, r⟩ := r0.one
  obtain ⟨p1, vs, rfl, h1, h2⟩ := dpL r
  refine ⟨p1, vs, rfl, .inl (.inl (.inl (a.sx.sub _ _ h1))), fun p hp => ?_⟩
  exact PostE.new a hp (dpl upd_same (h2.mono (same_upd (a.sx.sub.free hp)))) q
theorem cld_all (hc : Γ.X.calm = true) {bs : List Bool} (q : Q (.bl (bs.all id)) μ) : cld Γ (.builtin "all") [.lst (bs.map .bl)] δ μ Q := cld_of (cr_all hc) fun F σ H vs a r0 => by
  obtain ⟨v, rfl, r⟩ := r0.one
  obtain ⟨p1, vs, rfl, h1, h2⟩ := dpL r
  rw [Dps.bls h2] at h1
  exact ⟨p1, bs, rfl, .inl (.inl (a.sx.sub _ _ h1)), PostE.here a dpb q⟩
theorem cld_any (hc : Γ.X.calm = true) {bs : List Bool} (q : Q (.bl (bs.any id)) μ) : cld Γ (.builtin "any") [.lst (bs.map .bl)] δ μ Q := cld_of (cr_any hc) fun F σ H vs a r0 => by
  obtain ⟨v, rfl, r⟩ := r0.one
  obtain ⟨p1, vs, rfl, h1, h2⟩ := dpL r
  rw [Dps.bls h2] at h1
  exact ⟨p1, bs, rfl, .inl (.inl (a.sx.sub _ _ h1)), PostE.here a dpb q⟩
end
/-! ### methods -/
theorem tyV_of {Γ : Ct} {F H : Hp} {δ : Dl} {μ : Mu} {σ : L2.St} {T : String} {x : D} {v : V} (a : At Γ F δ μ σ H) (r : Dp Γ.X.K F x v) (h : tyD T x μ) : tyV Γ.X.K T v H := by
  cases x with
  | str z => rw [dpS r]; exact h
  | lst ds =>
    obtain ⟨p, vs, rfl, h1, _⟩ := dpL r
    exact .inl ⟨h, vs, .inl (.inl (a.sx.sub _ _ h1))⟩
  | dK ks ds =>
    rw [Dp] at r
    obtain ⟨p, kvs, rfl, h1, _⟩ := r
    exact .inr (.inr (.inl ⟨h, .inl ⟨kvs, a.sx.sub _ _ h1⟩⟩))
  | ref p =>
    rw [dpR r]
    rcases h with ⟨ds, hm, e⟩ | ⟨ks, ds, hm, e⟩ | ⟨ks, ds, hm, e⟩ | ⟨S, n, hm, e⟩
    · obtain ⟨vs, h1, _⟩ := a.sx.cells _ hm
      exact .inl ⟨e, vs, .inl (.inl h1)⟩
    · obtain ⟨vs, h1, _⟩ := a.sx.cells _ hm
      exact .inr (.inr (.inl ⟨e, .inl ⟨vs, h1⟩⟩))
    · obtain ⟨vs, h1, _⟩ := a.sx.cells _ hm
      exact .inr (.inr (.inl ⟨e, .inr ⟨vs, h1⟩⟩))
    · exact .inr (.inr (.inr ⟨e, S, n, a.sx.cells _ hm⟩))
  | _ => exact h.elim
section
variable {Γ : Ct} {δ : Dl} {μ : Mu} {Q : D → Mu → Prop} {x y : D} {o e : Expr} {es : List Expr} {name : Str} {apos cpos : Pos} {T id : String}
theorem ed_bm (pa : PlainAttrs T) (slot : Slot T name id) (hty : typeOf (.builtin id) = pure (.type "method_descriptor")) (h : ed Γ o δ μ fun x μ1 => tyD T x μ1 ∧ ea Γ (e :: es) δ μ1 fun xs μ2 => mtd Γ id x xs δ μ2 Q)
    (hbase : attributeBase o name Γ.X.env (eval o Γ.X.env) = eval o Γ.X.env := by with_unfolding_all rfl)
    (hfew : ((backTo cpos (starEach (e :: es) Γ.X.env)).all (fun x => !x.1) && (backToKw cpos (keywordEach [] Γ.X.env)).all (fun x => x.1.isSome)
      && decide ((e :: es).length + ([] : List Keyword).length + (if ([] : List Keyword).isEmpty then 0 else 1) < 30)) = true := by with_unfolding_all rfl)
    (hline : (apos.endLine == cpos.line) = true := by with_unfolding_all rfl) (hs : starEach (e :: es) Γ.X.env = (false, eval e Γ.X.env) :: starEach es Γ.X.env := by with_unfolding_all rfl) (hplain : (backTo cpos (starEach es Γ.X.env)).any (·.1) = false := by with_unfolding_all rfl) :
    ed Γ (.Call (.Attribute o name apos) (e :: es) [] cpos) δ μ Q := fun F σ H at_ =>
  we_of (pe_bm pa slot hty rmf_ok pe_we pa_wa hbase hfew hline hs hplain) (we_mono (h F σ H at_) fun v H1 ⟨F1, d1, μ1, s1, h1, r1, ty, q1⟩ => ⟨tyV_of h1 r1 ty,
    wa_mono (q1 F1 σ H1 h1) fun vs H2 ⟨F2, ds, μ2, s2, h2, r2, q2⟩ => rmf_mono (q2 F2 σ H2 v vs h2 (r1.mono s2) r2) fun v H' z => PostE.up (s1.trans s2) z⟩)
theorem ed_bm0 (pa : PlainAttrs T) (slot : Slot T name id) (hty : typeOf (.builtin id) = pure (.type "method_descriptor")) (h : ed Γ o δ μ fun x μ1 => tyD T x μ1 ∧ mtd Γ id x [] δ μ1 Q)
    (hbase : attributeBase o name Γ.X.env (eval o Γ.X.env) = eval o Γ.X.env := by with_unfolding_all rfl) (hline : (apos.endLine == cpos.line) = true := by with_unfolding_all rfl) :
    ed Γ (.Call (.Attribute o name apos) [] [] cpos) δ μ Q := fun F σ H at_ =>
  we_of (pe_bm0 pa slot hty rmf_ok pe_we hbase hline) (we_mono (h F σ H at_) fun v H1 ⟨F1, d1, μ1, s1, h1, r1, ty, q1⟩ => ⟨tyV_of h1 r1 ty, rmf_mono (q1 F1 σ H1 v [] h1 r1 Dps.nil) fun v H' z => PostE.up s1 z⟩)
theorem mem_mid {α : Type} {a : α} {l1 l2 : List α} : a ∈ l1 ++ a :: l2 := List.mem_append_right _ List.mem_cons_self
/-- xs.append(d), xs owned -/
theorem mtd_append {p : Addr} {xs : List D} {d : D} {μ1 μ2 : Mu} (hl : xs.length < sizeLine) (q : Q .non (μ1 ++ (p, .lst (xs ++ [d])) :: μ2)) : mtd Γ "list.append" (.ref p) [d] δ (μ1 ++ (p, .lst xs) :: μ2) Q := mtd_of mt_append fun F σ H vx vs a r1 r2 => by
  rw [dpR r1]
  obtain ⟨v, rfl, r3⟩ := r2.one
  obtain ⟨ws, h1, h2⟩ := a.sx.cells (p, .lst xs) mem_mid
  exact ⟨p, ws, v, rfl, rfl, h1, by rw [← h2.length]; exact hl, F, .non, _, Same.refl F, a.put (c' := .lst (xs ++ [d])) ⟨_, upd_same, h2.append (Dps.cons r3 Dps.nil)⟩, dpn, q⟩
/-- xs.extend(ys), xs owned, ys a list -/
theorem mtd_extend {p : Addr} {xs ys : List D} {μ1 μ2 : Mu} (hl : xs.length + ys.length ≤ sizeLine) (q : Q .non (μ1 ++ (p, .lst (xs ++ ys)) :: μ2)) : mtd Γ "list.extend" (.ref p) [.lst ys] δ (μ1 ++ (p, .lst xs) :: μ2) Q := mtd_of mt_extend fun F σ H vx vs a r1 r2 => by
  rw [dpR r1]
  obtain ⟨v, rfl, r3⟩ := r2.one
  obtain ⟨b, zs, rfl, h3, h4⟩ := dpL r3
  obtain ⟨ws, h1, h2⟩ := a.sx.cells (p, .lst xs) mem_mid
  exact ⟨p, b, ws, zs, rfl, rfl, h1, a.sx.sub _ _ h3, by rw [← h2.length, ← h4.length]; exact hl, F, .non, _, Same.refl F, a.put (c' := .lst (xs ++ ys)) ⟨_, upd_same, h2.append h4⟩, dpn, q⟩
/-- xs.pop(), xs owned -/
theorem mtd_pop {p : Addr} {xs : List D} {d : D} {μ1 μ2 : Mu} (hd : xs[xs.length - 1]? = some d) (q : Q d (μ1 ++ (p, .lst xs.dropLast) :: μ2)) : mtd Γ "list.pop" (.ref p) [] δ (μ1 ++ (p, .lst xs) :: μ2) Q := mtd_of mt_pop fun F σ H vx vs a r1 r2 => by
  rw [dpR r1, r2.unnil]
  obtain ⟨ws, h1, h2⟩ := a.sx.cells (p, .lst xs) mem_mid
  obtain ⟨v, e, r⟩ := h2.get hd
  rw [h2.length] at e
  exact ⟨p, ws, v, rfl, rfl, h1, e, F, d, _, Same.refl F, a.put (c' := .lst xs.dropLast) ⟨_, upd_same, h2.dropLast⟩, r, q⟩
/-! ### xs[i] = d, xs owned -/
theorem gd_setL {o i : Expr} {pos : Pos} {v : D} {Q : Dl → Mu → Prop} (h : ed Γ o δ μ fun x μ1 => ed Γ i δ μ1 fun y μ2 => ∃ p k j xs μa μb, x = .ref p ∧ y = .int k ∧ μ2 = μa ++ (p, .lst xs) :: μb ∧ ixN xs.length k = some j ∧ Q δ (μa ++ (p, .lst (xs.set j v)) :: μb))
    (ha : ∀ v, assign (.Subscript o i pos) Γ.X.env v = (do
      let ov ← holding [v] (eval o Γ.X.env)
      let iv ← holding [v, ov] (eval i Γ.X.env)
      standAt pos
      holding [v, ov, iv] (setItem ov iv v)
      release [v, ov, iv] []) := by intro _; rfl) : gd Γ (.Subscript o i pos) v δ μ Q := fun F σ H vv at_ rv => by
  refine wg_of (pg_sub pe_we pe_we set_list ha) (we_mono (h F σ H at_) fun x H1 ⟨F1, d1, μ1, s1, h1, r1, q1⟩ => we_mono (q1 F1 σ H1 h1) fun y H2 ⟨F2, d2, μ2, s2, h2, r2, p, k, j, xs, μa, μb, e1, e2, e3, e4, q2⟩ => ?_)
  subst e1 e2 e3
  rw [dpR r1, dpI r2]
  obtain ⟨ws, g1, g2⟩ := h2.sx.cells (p, .lst xs) mem_mid
  exact ⟨p, ws, k, j, rfl, rfl, g1, by rw [← g2.length]; exact e4, F2, δ, _, s1.trans s2, h2.put (c' := .lst (xs.set j v)) ⟨_, upd_same, g2.set j (rv.mono (s1.trans s2))⟩, q2⟩
end
end PD
/-! PD4: what is walked, loops, comprehensions. -/
namespace PD
open PySem PySem.Spec PyProof.Rows L2
/-! ### a later start -/
theorem wofD_here {K : PySem.W.Frag} {F0 F H0 H : Hp} {μ0 μ : Mu} {W : XD} (st : Step F0 μ0 H0 F μ H) : ∀ c d σ H', WofD K F μ H W c d σ H' → WofD K F0 μ0 H0 W c d σ H' := fun c d σ H' h => by
  obtain ⟨F2, μ2, δ, ns, ds, s, x⟩ := h; exact ⟨F2, μ2, δ, ns, ds, st.trans s, x⟩
def Ct.here (Γ : Ct) {F H : Hp} {μ : Mu} (st : Step Γ.F0 Γ.μ0 Γ.H0 F μ H) : Ct := ⟨Γ.X, F, μ, H, Γ.W, Γ.nn, Γ.tk.imp (wofD_here st), Γ.po⟩
section
variable {Γ : Ct} {F F' F2 H H' H2 : Hp} {δ δ' : Dl} {μ μ' : Mu} {σ σ' : L2.St}
theorem At.here (a : At Γ F δ μ σ H) : At (Γ.here a.st) F δ μ σ H := ⟨Step.refl _ _ _, a.sx, a.fr⟩
theorem At.back {st : Step Γ.F0 Γ.μ0 Γ.H0 F μ H} (a : At (Γ.here st) F2 δ' μ' σ' H2) : At Γ F2 δ' μ' σ' H2 := ⟨st.trans a.st, a.sx, a.fr⟩
theorem At.frame (a : At Γ F δ μ σ H) (h : Fr Γ.X.K F σ' δ') : At Γ F δ' μ σ' H := ⟨a.st, a.sx, h⟩
theorem At.updFree (a : At Γ F δ μ σ H) {p : Addr} {o : HO} (h0 : Γ.H0 p = none ∨ p ∈ dom Γ.μ0) (hF : F p = none) (hμ : p ∉ dom μ) : At Γ F δ μ σ (upd H p o) := by
  refine ⟨⟨a.st.ext, fun b u h hn => ?_, a.st.new, a.st.cell⟩, ⟨fun b u h => ?_, a.sx.off, a.sx.nd, fun c hc => (a.sx.cells c hc).mono (Same.refl F) (upd_ne fun e => hμ (by rw [← e]; exact List.mem_map.mpr ⟨c, hc, rfl⟩))⟩, a.fr⟩
  · have hb : b ≠ p := fun z => by
      rcases h0 with q | q
      · rw [z, q] at h; cases h
      · exact hn (by rw [z]; exact q)
    rw [upd_ne hb]; exact a.st.keep b u h hn
  · rw [upd_ne (fun z => by rw [z, hF] at h; cases h)]; exact a.sx.sub _ _ h
end
/-! ### what is walked -/
structure ItOk (K : PySem.W.Frag) (J : It) (ds : List D) (S : Mu → Prop) (F1 : Hp) : Prop where
  go : ∀ (Γ : Ct), Γ.X.K = K → ∀ i F δ μ σ H, Same F1 F → At Γ F δ μ σ H → S μ → ∀ d, ds[i]? = some d → J.go i H ∧ ∀ x H', J.yld i H x H' → ∃ F', Same F F' ∧ At Γ F' δ μ σ H' ∧ Dp K F' d x
  stop : ∀ (Γ : Ct), Γ.X.K = K → ∀ i F δ μ σ H, Same F1 F → At Γ F δ μ σ H → S μ → ds.length ≤ i → J.stop i H
def eid (Γ : Ct) (tg iter : Expr) (δ : Dl) (μ : Mu) (R : List D → (Mu → Prop) → Mu → Prop) : Prop := ∀ F σ H, At Γ F δ μ σ H → wi Γ.X tg iter σ H fun J H1 => ∃ F1 ds S μ1, Same F F1 ∧ At Γ F1 δ μ1 σ H1 ∧ ItOk Γ.X.K J ds S F1 ∧ R ds S μ1
/-- pyIter of a value -/
def itf (X : Cx) (tg : Expr) (x : V) (H : Hp) (R : It → Hp → Prop) : Prop := ∀ (pins : List (Addr × Obj)) (s : Shared) (σ : L2.St) (v : Value), Inv X pins σ H s → RelV x v → wpAny (model X.prog X.w) X.A (pyIter v) (PIE X pins σ tg R) X.xe s
theorem itf_list {X : Cx} {tg : Expr} {a : Addr} {xs : List V} {H : Hp} {R : It → Hp → Prop} (hq : SqL X.K H a xs) (q : R (Itl X.K a) H) : itf X tg (.ref a) H R := fun pins s σ v I1 r1 => by
  cases r1
  obtain ⟨its, rv, p, hz⟩ := I1.list hq
  refine wpAny_pyIter_list p.isList ?_
  refine ⟨s.heap.objs.size, [s.heap.objs.size], _, _, H, rfl, I1.kept (t' := s.toks) fun b o e => Heap.get?_push_of_some _ e, turn_list a _, ⟨_, Heap.get?_push_size _ rfl, rfl, rfl⟩, fun b hb => ?_, q⟩
  have e : b = s.heap.objs.size := by simpa using hb
  subst e
  exact I1.fpOk (Nat.le_refl _) (I1.hok.fresh (Nat.le_refl _))
theorem itf_tup {X : Cx} {tg : Expr} {a : Addr} {xs : List V} {H : Hp} {R : It → Hp → Prop} (hq : SqT X.K H a xs) (q : R (Itt X.K a) H) : itf X tg (.ref a) H R := fun pins s σ v I1 r1 => by
  cases r1
  obtain ⟨its, rv, p, hz⟩ := I1.tuple hq
  refine wpAny_pyIter_tuple (show s.heap.IsTuple a its.toArray from p) ?_
  refine ⟨s.heap.objs.size, [s.heap.objs.size], _, _, H, rfl, I1.kept (t' := s.toks) fun b o e => Heap.get?_push_of_some _ e, turn_tuple a _, ⟨_, Heap.get?_push_size _ rfl, rfl, rfl⟩, fun b hb => ?_, q⟩
  have e : b = s.heap.objs.size := by simpa using hb
  subst e
  exact I1.fpOk (Nat.le_refl _) (I1.hok.fresh (Nat.le_refl _))
theorem itf_mono {X : Cx} {tg : Expr} {x : V} {H : Hp} {R R' : It → Hp → Prop} (h : itf X tg x H R) (k : ∀ J H', R J H' → R' J H') : itf X tg x H R' := fun pins s σ v I r =>
  thn (h pins s σ v I r) fun itv s2 ⟨it, fp, tn, J, H', e, I2, T, st, f, r⟩ => ⟨it, fp, tn, J, H', e, I2, T, st, f, k J H' r⟩
def PostI (Γ : Ct) (F : Hp) (δ : Dl) (σ : L2.St) (R : List D → (Mu → Prop) → Mu → Prop) : It → Hp → Prop := fun J H1 => ∃ F1 ds S μ1, Same F F1 ∧ At Γ F1 δ μ1 σ H1 ∧ ItOk Γ.X.K J ds S F1 ∧ R ds S μ1
theorem PostI.up {Γ : Ct} {F F' : Hp} {δ : Dl} {σ : L2.St} {R : List D → (Mu → Prop) → Mu → Prop} (e : Same F F') {J : It} {H1 : Hp} (h : PostI Γ F' δ σ R J H1) : PostI Γ F δ σ R J H1 := by
  obtain ⟨F1, ds, S, μ1, s, x⟩ := h; exact ⟨F1, ds, S, μ1, e.trans s, x⟩
def itd (Γ : Ct) (tg : Expr) (x : D) (δ : Dl) (μ : Mu) (R : List D → (Mu → Prop) → Mu → Prop) : Prop := ∀ F σ H v, At Γ F δ μ σ H → Dp Γ.X.K F x v → itf Γ.X tg v H (PostI Γ F δ σ R)
section
variable {Γ : Ct} {tg iter : Expr} {δ : Dl} {μ : Mu} {R : List D → (Mu → Prop) → Mu → Prop}
theorem pi_itf {X : Cx} : PI X tg iter (fun σ H R => we X iter σ H fun x H1 => itf X tg x H1 R) := ⟨fun pins s σ H R I h => thn (h pins s I) fun v s1 ⟨x, H1, I1, r1, q1⟩ => q1 pins s1 σ v I1 r1⟩
theorem eid_of (h : ed Γ iter δ μ fun d μ1 => itd Γ tg d δ μ1 R) : eid Γ tg iter δ μ R := fun F σ H a =>
  wi_of pi_itf (we_mono (h F σ H a) fun v H1 ⟨F1, d, μ1, s1, a1, r1, q1⟩ => itf_mono (q1 F1 σ H1 v a1 r1) fun J H' z => PostI.up s1 z)
theorem itOk_list {K : PySem.W.Frag} {F : Hp} {a : Addr} {vs : List V} {ds : List D} (h : F a = some (.lst vs)) (r : Dps K F ds vs) : ItOk K (Itl K a) ds (fun _ => True) F where
  go := fun Γ hK i F2 δ μ σ H s a2 _ d hd => by
    have hl : SqL K H a vs := .inl (.inl (a2.sx.sub _ _ (s _ _ h)))
    obtain ⟨v, e1, r1⟩ := (r.mono s).get hd
    refine ⟨⟨vs, v, hl, e1⟩, fun x H' y => ?_⟩
    obtain ⟨e2, y⟩ := y
    rw [e2]
    have e3 := y vs hl
    rw [e1] at e3
    rw [← Option.some.inj e3]
    exact ⟨F2, Same.refl _, a2, r1⟩
  stop := fun Γ hK i F2 δ μ σ H s a2 _ hi => ⟨vs, .inl (.inl (a2.sx.sub _ _ (s _ _ h))), by rw [← r.length]; exact hi⟩
theorem itOk_rl {K : PySem.W.Frag} {F : Hp} {a : Addr} {vs : List V} {ds : List D} (h : SqL K F a vs) (r : Dps K F ds vs) : ItOk K (Itl K a) ds (fun _ => True) F where
  go := fun Γ hK i F2 δ μ σ H s a2 _ d hd => by
    have hl : SqL K H a vs := a2.sx.sub.seq (s.seq h)
    obtain ⟨v, e1, r1⟩ := (r.mono s).get hd
    refine ⟨⟨vs, v, hl, e1⟩, fun x H' y => ?_⟩
    obtain ⟨e2, y⟩ := y
    rw [e2]
    have e3 := y vs hl
    rw [e1] at e3
    rw [← Option.some.inj e3]
    exact ⟨F2, Same.refl _, a2, r1⟩
  stop := fun Γ hK i F2 δ μ σ H s a2 _ hi => ⟨vs, a2.sx.sub.seq (s.seq h), by rw [← r.length]; exact hi⟩
theorem itOk_tup {K : PySem.W.Frag} {F : Hp} {a : Addr} {vs : List V} {ds : List D} (h : SqT K F a vs) (r : Dps K F ds vs) : ItOk K (Itt K a) ds (fun _ => True) F where
  go := fun Γ hK i F2 δ μ σ H s a2 _ d hd => by
    have hl : SqT K H a vs := Same.sqT a2.sx.sub (Same.sqT s h)
    obtain ⟨v, e1, r1⟩ := (r.mono s).get hd
    refine ⟨⟨vs, v, hl, e1⟩, fun x H' y => ?_⟩
    obtain ⟨e2, y⟩ := y
    rw [e2]
    have e3 := y vs hl
    rw [e1] at e3
    rw [← Option.some.inj e3]
    exact ⟨F2, Same.refl _, a2, r1⟩
  stop := fun Γ hK i F2 δ μ σ H s a2 _ hi => ⟨vs, Same.sqT a2.sx.sub (Same.sqT s h), by rw [← r.length]; exact hi⟩
theorem itOk_own {K : PySem.W.Frag} {F : Hp} {a : Addr} {ds : List D} : ItOk K (Itl K a) ds (fun μ => (a, Cell.lst ds) ∈ μ) F where
  go := fun Γ hK i F2 δ μ σ H s a2 hm d hd => by
    subst hK
    obtain ⟨vs, h1, r⟩ := a2.sx.cells _ hm
    have hl : SqL Γ.X.K H a vs := .inl (.inl h1)
    obtain ⟨v, e1, r1⟩ := r.get hd
    refine ⟨⟨vs, v, hl, e1⟩, fun x H' y => ?_⟩
    obtain ⟨e2, y⟩ := y
    rw [e2]
    have e3 := y vs hl
    rw [e1] at e3
    rw [← Option.some.inj e3]
    exact ⟨F2, Same.refl _, a2, r1⟩
  stop := fun Γ hK i F2 δ μ σ H s a2 hm hi => by
    subst hK
    obtain ⟨vs, h1, r⟩ := a2.sx.cells _ hm
    exact ⟨vs, .inl (.inl h1), by rw [← r.length]; exact hi⟩
theorem itd_lst {ds : List D} (q : R ds (fun _ => True) μ) : itd Γ tg (.lst ds) δ μ R := fun F σ H v a r => by
  obtain ⟨p, vs, rfl, h1, h2⟩ := dpL r
  exact itf_list (.inl (.inl (a.sx.sub _ _ h1))) ⟨F, ds, _, μ, Same.refl F, a, itOk_list h1 h2, q⟩
theorem itd_rl {ds : List D} (q : R ds (fun _ => True) μ) : itd Γ tg (.rl ds) δ μ R := fun F σ H v a r => by
  obtain ⟨p, vs, rfl, h1, h2⟩ := dpRl r
  exact itf_list (a.sx.sub.seq h1) ⟨F, ds, _, μ, Same.refl F, a, itOk_rl h1 h2, q⟩
theorem itd_tup {ds : List D} (q : R ds (fun _ => True) μ) : itd Γ tg (.tup ds) δ μ R := fun F σ H v a r => by
  obtain ⟨p, vs, rfl, h1, h2⟩ := dpT r
  exact itf_tup (Same.sqT a.sx.sub h1) ⟨F, ds, _, μ, Same.refl F, a, itOk_tup h1 h2, q⟩
theorem itd_own {p : Addr} {ds : List D} (hm : (p, Cell.lst ds) ∈ μ) (q : R ds (fun μ => (p, Cell.lst ds) ∈ μ) μ) : itd Γ tg (.ref p) δ μ R := fun F σ H v a r => by
  rw [dpR r]
  obtain ⟨vs, h1, h2⟩ := a.sx.cells _ hm
  exact itf_list (.inl (.inl h1)) ⟨F, ds, _, μ, Same.refl F, a, itOk_own, q⟩
/-- range(n) -/
theorem itOk_range {K : PySem.W.Frag} {F : Hp} {lo : Int} {n : Nat} : ItOk K (Itr lo n) ((List.range n).map fun i : Nat => D.int (lo + i)) (fun _ => True) F where
  go := fun Γ hK i F2 δ μ σ H s a2 _ d hd => by
    rw [List.getElem?_map] at hd
    cases e : (List.range n)[i]? with
    | none => rw [e] at hd; cases hd
    | some j =>
      rw [e] at hd
      have hi : i < n := by
        have := (List.getElem?_eq_some_iff.mp e).1
        rw [List.length_range] at this; exact this
      have ej : j = i := by
        rw [List.getElem?_range hi] at e
        exact (Option.some.inj e).symm
      subst ej
      refine ⟨hi, fun x H' y => ?_⟩
      obtain ⟨e2, y⟩ := y
      rw [e2, y, ← Option.some.inj hd]
      exact ⟨F2, Same.refl _, a2, dpi⟩
  stop := fun Γ hK i F2 δ μ σ H s a2 _ hi => by
    rw [List.length_map, List.length_range] at hi; exact hi
theorem eid_range {e : Expr} {p pos : Pos} (hm : Γ.X.mg "range" = none) (h : ea Γ [e] δ μ fun ds μ1 => ∃ n : Int, ds = [.int n] ∧ n < 2 ^ 62 ∧ -(2 ^ 62) ≤ n ∧ R ((List.range n.toNat).map fun i : Nat => D.int (0 + i)) (fun _ => True) μ1)
    (hg : Gl Γ.X "range" := by rfl) (hs : starEach [e] Γ.X.env = [(false, eval e Γ.X.env)] := by rfl) : eid Γ tg (.Call (.Name "range" p) [e] [] pos) δ μ R := fun F σ H a =>
  wi_of (pi_range1 hg hm pa_wa hs) (wa_mono (h F σ H a) fun vs H1 ⟨F1, ds, μ1, s1, a1, r1, n, e1, h1, h2, q⟩ => by
    subst e1
    obtain ⟨v, rfl, r2⟩ := r1.one
    rw [dpI r2]
    exact ⟨n, rfl, h2, h1, F1, _, _, μ1, s1, a1, itOk_range, q⟩)
theorem eid_range2 {e e2 : Expr} {p pos : Pos} (hm : Γ.X.mg "range" = none) (h : ea Γ [e, e2] δ μ fun ds μ1 => ∃ i n : Int, ds = [.int i, .int n] ∧ (-(2 ^ 62) ≤ i ∧ i < 2 ^ 62 ∧ -(2 ^ 62) ≤ n ∧ n < 2 ^ 62) ∧ R ((List.range (n - i).toNat).map fun k : Nat => D.int (i + k)) (fun _ => True) μ1)
    (hg : Gl Γ.X "range" := by rfl) (hs : starEach [e, e2] Γ.X.env = [(false, eval e Γ.X.env), (false, eval e2 Γ.X.env)] := by rfl) (hs2 : starEach [e2] Γ.X.env = [(false, eval e2 Γ.X.env)] := by rfl) : eid Γ tg (.Call (.Name "range" p) [e, e2] [] pos) δ μ R := fun F σ H a =>
  wi_of (pi_range2 hg hm pa_wa hs hs2) (wa_mono (h F σ H a) fun vs H1 ⟨F1, ds, μ1, s1, a1, r1, i, n, e1, h1, q⟩ => by
    subst e1
    obtain ⟨v, w, rfl, r2, r3⟩ := r1.two
    rw [dpI r2, dpI r3]
    exact ⟨i, n, rfl, h1, F1, _, _, μ1, s1, a1, itOk_range, q⟩)
/-- enumerate(a list) -/
def enumD (ds : List D) : List D := ds.zipIdx.map fun p => .tup [.int (p.2 : Nat), p.1]
theorem enumD_get {ds : List D} {i : Nat} {d : D} (h : (enumD ds)[i]? = some d) : ∃ e, ds[i]? = some e ∧ d = .tup [.int (i : Nat), e] := by
  unfold enumD at h
  rw [List.getElem?_map, List.getElem?_zipIdx] at h
  cases q : ds[i]? with
  | none => rw [q] at h; cases h
  | some e =>
    rw [q] at h
    refine ⟨e, rfl, ?_⟩
    have := Option.some.inj h
    rw [← this]
    show D.tup [.int ((0 + i : Nat) : Int), e] = _
    rw [Nat.zero_add]
theorem enumD_len {ds : List D} : (enumD ds).length = ds.length := by unfold enumD; rw [List.length_map, List.length_zipIdx]
theorem itOk_enum {K : PySem.W.Frag} {F : Hp} {a : Addr} {ds : List D} {S : Mu → Prop} (base : ItOk K (Itl K a) ds S F) : ItOk K (Ite K a) (enumD ds) S F where
  go := fun Γ hK i F2 δ μ σ H s a2 hS d hd => by
    obtain ⟨e, he, rfl⟩ := enumD_get hd
    obtain ⟨⟨xs, x, h1, h2⟩, g⟩ := base.go Γ hK i F2 δ μ σ H s a2 hS e he
    refine ⟨⟨xs, x, h1, h2⟩, fun v H' y => ?_⟩
    obtain ⟨T, x', rfl, hT, rfl, y⟩ := y
    obtain ⟨F3, s3, a3, r3⟩ := g x' H ⟨rfl, y⟩
    have sF := same_upd (o := HO.tup [.int (i : Nat), x']) (a3.sx.sub.free hT)
    exact ⟨upd F3 T (.tup [.int (i : Nat), x']), s3.trans sF, a3.pers _ hT, dpt (.inl (.inl upd_same)) (Dps.cons dpi (Dps.cons (r3.mono sF) Dps.nil))⟩
  stop := fun Γ hK i F2 δ μ σ H s a2 hS hi => base.stop Γ hK i F2 δ μ σ H s a2 hS (by rw [enumD_len] at hi; exact hi)
end
/-! ### for -/
section
variable {Γ : Ct} {tg iter : Expr} {body : List Stmt} {δ : Dl} {μ : Mu} {E : En} {pos : Pos}
theorem sd_for (hc : Γ.X.calm = true) (h : eid Γ tg iter δ μ fun ds S μ1 => ∃ I : Nat → Dl → Mu → Prop, I 0 δ μ1 ∧ (∀ i δ' μ', i ≤ ds.length → I i δ' μ' → S μ') ∧
      (∀ i d δ' μ', ds[i]? = some d → I i δ' μ' → gd Γ tg d δ' μ' fun δ2 μ2 => sds Γ body δ2 μ2 { E with nx := I (i + 1), ct := I (i + 1), bk := E.nx }) ∧ ∀ δ' μ', I ds.length δ' μ' → E.nx δ' μ')
    (hs : ∀ x, foldedSetIterable iter Γ.X.env x = pure x := by intro _; rfl) : sd Γ (.For tg iter body [] pos) δ μ E := fun F σ H a => by
  refine ws_of (ps_for Γ.po hc pi_wi pg_wg pss_wss hs) (wi_mono (h F σ H a) fun J H1 ⟨F1, ds, S, μ1, s1, a1, ok, I, h0, hS, hb, hd⟩ => ?_)
  refine ⟨fun i m σ' H' => m = ds.length - i ∧ i ≤ ds.length ∧ ∃ F' δ' μ', Same F1 F' ∧ At Γ F' δ' μ' σ' H' ∧ I i δ' μ', ⟨ds.length, by simp, Nat.zero_le _, F1, δ, μ1, Same.refl _, a1, h0⟩, ?_⟩
  rintro i m σ' H' ⟨rfl, hi, F', δ', μ', s', a', hI⟩
  by_cases hlt : i < ds.length
  · have e : ds[i]? = some ds[i] := List.getElem?_eq_getElem hlt
    obtain ⟨g1, g2⟩ := ok.go Γ rfl i F' δ' μ' σ' H' s' a' (hS i δ' μ' hi hI) _ e
    refine .inr ⟨g1, PostN Γ F1 (I (i + 1)), fun σ2 H2 ⟨F2, δ2, μ2, s2, a2, q2⟩ => ⟨ds.length - (i + 1), by omega, rfl, hlt, F2, δ2, μ2, s2, a2, q2⟩, fun x H2 y => ?_⟩
    obtain ⟨F2, s2, a2, r2⟩ := g2 x H2 y
    refine wg_mono (hb i _ δ' μ' e hI F2 σ' H2 x a2 r2) fun σ3 H3 ⟨F3, δ3, μ3, s3, a3, q3⟩ => ?_
    exact wss_mono (q3 F3 σ3 H3 a3) ⟨fun _ _ z => z.up ((s'.trans s2).trans s3), fun _ _ z => z.up ((s1.trans (s'.trans s2)).trans s3), fun _ _ z => z.up ((s1.trans (s'.trans s2)).trans s3), fun _ _ z => z.up ((s'.trans s2).trans s3)⟩
  · have e : i = ds.length := by omega
    subst e
    exact .inl ⟨ok.stop Γ rfl _ F' δ' μ' σ' H' s' a' (hS _ δ' μ' hi hI) (Nat.le_refl _), F', δ', μ', s1.trans s', a', hd _ _ hI⟩
/-- while, by an invariant and a measure of the state -/
theorem sd_while {c : Expr} (I : Nat → Dl → Mu → Prop) (m0 : Nat) (h0 : I m0 δ μ) (h : ∀ m δ' μ', I m δ' μ' → et Γ c δ' μ' fun b μ2 => if b = true then sds Γ body δ' μ2 { E with nx := fun δ3 μ3 => ∃ m', m' < m ∧ I m' δ3 μ3, ct := fun δ3 μ3 => ∃ m', m' < m ∧ I m' δ3 μ3, bk := E.nx } else E.nx δ' μ2) :
    sd Γ (.While c body [] pos) δ μ E := fun F σ H a => by
  refine ws_of (ps_while Γ.po pt_wt pss_wss) ?_
  refine ⟨fun m σ' H' => ∃ F' δ' μ', Same F F' ∧ At Γ F' δ' μ' σ' H' ∧ I m δ' μ', ⟨m0, F, δ, μ, Same.refl _, a, h0⟩, ?_⟩
  rintro m σ' H' ⟨F', δ', μ', s', a', hI⟩
  refine wt_mono (h m δ' μ' hI F' σ' H' a') fun b H2 ⟨F2, μ2, s2, a2, q2⟩ => ?_
  cases b with
  | true =>
    rw [if_pos rfl] at q2 ⊢
    refine ⟨PostN Γ F fun δ3 μ3 => ∃ m', m' < m ∧ I m' δ3 μ3, fun σ3 H3 ⟨F3, δ3, μ3, s3, a3, m', hm, q3⟩ => ⟨m', hm, F3, δ3, μ3, s3, a3, q3⟩, ?_⟩
    exact wss_mono (q2 F2 σ' H2 a2) ⟨fun _ _ z => z.up (s'.trans s2), fun _ _ z => z.up (s'.trans s2), fun _ _ z => z.up (s'.trans s2), fun _ _ z => z.up (s'.trans s2)⟩
  | false =>
    rw [if_neg Bool.false_ne_true] at q2 ⊢
    exact ⟨F2, δ', μ2, s'.trans s2, a2, q2⟩
end
/-! ### comprehensions -/
def wipeD (δ : Dl) : List Nat → Dl
  | [] => δ
  | v :: vs => (wipeD δ vs).set v none
theorem Fr.wipe {K : PySem.W.Frag} {F : Hp} {σ : L2.St} {δ : Dl} (h : Fr K F σ δ) : ∀ vs : List Nat, Fr K F (L2.wipe σ vs) (wipeD δ vs)
  | [] => h
  | v :: vs => (Fr.wipe h vs).unset v none
theorem takesF {X : Cx} {K : PySem.W.Frag} {F0 : Hp} {μ0 : Mu} {H0 : Hp} : Takes X (WofD K F0 μ0 H0 fun _ _ _ _ _ => False) := (takes0 (X := X)).imp fun c d σ H h => by
  obtain ⟨_, _, _, _, _, _, _, _, _, z⟩ := h; exact z
/-- the context of a comprehension's block -/
@[reducible] def Ct.blk (Γ : Ct) (scope : Scope) (s : Shared) (H : Hp) (C : Addr) (cl : List (Str × Addr)) (fp : List Addr) (F0 : Hp) (μ0 : Mu) (H0 : Hp) : Ct :=
  ⟨Γ.X.blk s H scope (compEnvC scope cl C Γ.X.env) fp, F0, μ0, H0, fun _ _ _ _ _ => False, false, takesF, PassesOwn.never⟩
/-- a target in a block: only the block's own slots are stored -/
def gv (Γ : Ct) (tg : Expr) (d : D) (vs : List Nat) (δ : Dl) (μ : Mu) (Q : Dl → Mu → Prop) : Prop := ∀ F σ H v, At Γ F δ μ σ H → Dp Γ.X.K F d v → wg Γ.X tg v σ H fun σ' H' => L2.wipe σ' vs = L2.wipe σ vs ∧ PostN Γ F Q σ' H'
def gvs (Γ : Ct) (tg : List Expr) (ds : List D) (vs : List Nat) (δ : Dl) (μ : Mu) (Q : Dl → Mu → Prop) : Prop := ∀ F σ H us, At Γ F δ μ σ H → Dps Γ.X.K F ds us → wgs Γ.X tg us σ H fun σ' H' => L2.wipe σ' vs = L2.wipe σ vs ∧ PostN Γ F Q σ' H'
theorem wipe_set_in {σ : L2.St} {j : Nat} {x : Option V} : ∀ {vs : List Nat}, j ∈ vs → L2.wipe (σ.set j x) vs = L2.wipe σ vs
  | v :: vs, h => by
    show (L2.wipe (σ.set j x) vs).set v none = (L2.wipe σ vs).set v none
    by_cases hj : j ∈ vs
    · rw [wipe_set_in hj]
    · have e : j = v := by rcases List.mem_cons.mp h with e | e; exact e; exact absurd e hj
      subst e
      have key : ∀ (us : List Nat), j ∉ us → L2.wipe (σ.set j x) us = (L2.wipe σ us).set j x := by
        intro us
        induction us with
        | nil => intro _; rfl
        | cons u us ih =>
          intro hu
          show (L2.wipe (σ.set j x) us).set u none = ((L2.wipe σ us).set u none).set j x
          rw [ih fun z => hu (List.mem_cons_of_mem _ z)]
          exact List.set_comm _ _ (fun z => hu (by rw [z]; exact List.mem_cons_self))
      rw [key vs hj, List.set_set]
section
variable {Γ : Ct} {δ : Dl} {μ : Mu} {vs : List Nat} {pos : Pos}
theorem gv_name {i : Nat} {x : Str} {d : D} {Q : Dl → Mu → Prop} (hN : Γ.X.N.Nodup) (hi : Γ.X.N[i]? = some x) (hv : i ∈ vs) (q : Q (δ.set i (some d)) μ) (hx : Loc Γ.X.env.scope x := by first | exact .inl rfl | exact .inr rfl)
    (hf : Γ.X.fn x = true ∨ Γ.X.env.scope.names.lookup x = some .local := by first | exact .inl rfl | exact .inr rfl | assumption) : gv Γ (.Name x pos) d vs δ μ Q := fun F σ H v a r =>
  wg_of (pg_name hN hi hx hf) ⟨wipe_set_in hv, F, _, μ, Same.refl F, a.fr_set i r, q⟩
theorem gvs_nil {Q : Dl → Mu → Prop} (q : Q δ μ) : gvs Γ [] [] vs δ μ Q := fun F σ H us a r => wgs_of pgs_nil ⟨r.unnil, rfl, F, δ, μ, Same.refl F, a, q⟩
theorem gvs_cons {e : Expr} {es : List Expr} {d : D} {ds : List D} {Q : Dl → Mu → Prop} (h : gv Γ e d vs δ μ fun δ' μ' => gvs Γ es ds vs δ' μ' Q) (hs : (assignEach (e :: es) Γ.X.env).map (·.2) = assign e Γ.X.env :: (assignEach es Γ.X.env).map (·.2) := by rfl) :
    gvs Γ (e :: es) (d :: ds) vs δ μ Q := fun F σ H us a r => by
  obtain ⟨v, ws', rfl, r1, r2⟩ := r.uncons
  refine wgs_of (pgs_cons pg_wg pgs_wgs hs) ⟨v, ws', rfl, wg_mono (h F σ H v a r1) fun σ1 H1 ⟨w1, F1, δ1, μ1, s1, a1, q1⟩ => ?_⟩
  exact wgs_mono (q1 F1 σ1 H1 ws' a1 (r2.mono s1)) fun σ2 H2 ⟨w2, z⟩ => ⟨w2.trans w1, z.up s1⟩
theorem gv_tup {es : List Expr} {k : Nat} {ds : List D} {n : Nat} {Q : Dl → Mu → Prop} (hc : Γ.X.calm = true) (h : ds.length = n ∧ gvs Γ es ds vs δ μ Q) (hn : (assignEach es Γ.X.env).length = n := by rfl) (hst : (assignEach es Γ.X.env).findIdx? (·.1) = none := by rfl) :
    gv Γ (.Tuple es k pos) (.tup ds) vs δ μ Q := fun F σ H v a r => by
  obtain ⟨p, us, rfl, hq, r⟩ := dpT r
  exact wg_of (pg_tup hc pgs_wgs hn hst) ⟨p, us, rfl, Same.sqT a.sx.sub hq, by rw [← r.length]; exact h.1, h.2 F σ H us a r⟩
end
/-- the tests of a comprehension: none, one -/
def eif (Γ : Ct) (ifs : List Expr) (δ : Dl) (μ : Mu) (Q : Bool → Mu → Prop) : Prop := match ifs with
  | [] => Q true μ
  | [c] => et Γ c δ μ Q
  | _ => False
def wif (X : Cx) : List Expr → TT
  | [] => tYes
  | [c] => wt X c
  | _ => fun _ _ _ => False
theorem pts_wif {X : Cx} : ∀ ifs : List Expr, PTs X ifs (wif X ifs)
  | [] => pts_nil
  | [c] => pts_one pt_wt
  | _ :: _ :: _ => ⟨fun _ _ _ _ _ _ h => h.elim⟩
theorem eif_run {Γ : Ct} {ifs : List Expr} {δ : Dl} {μ : Mu} {Q : Bool → Mu → Prop} (h : eif Γ ifs δ μ Q) {F σ H} (a : At Γ F δ μ σ H) {R : Bool → Hp → Prop} (k : ∀ b H', PostT Γ F δ σ Q b H' → R b H') : wif Γ.X ifs σ H R := by
  match ifs, h with
  | [], h => exact k true H ⟨F, μ, Same.refl F, a, h⟩
  | [c], h => exact wt_mono (h F σ H a) fun b H' z => k b H' z
section
variable {Γ : Ct} {elt tg iter : Expr} {ifs : List Expr} {scope : Scope} {own : List (Str × Nat)} {pos : Pos} {δ : Dl} {μ : Mu} {Q : D → Mu → Prop}
/-- a judgement in all blocks of a comprehension -/
def allB (Γ : Ct) (scope : Scope) (J : Ct → Prop) : Prop := ∀ (s : Shared) (H : Hp) (C : Addr) (cl : List (Str × Addr)) (fp : List Addr) (F0 : Hp) (μ0 : Mu) (H0 : Hp), J (Γ.blk scope s H C cl fp F0 μ0 H0)
/-- what a comprehension asks: I by the turn, the items made so far, the cells -/
def lcd (Γ : Ct) (elt tg iter : Expr) (ifs : List Expr) (scope : Scope) (vs : List Nat) (δ : Dl) (μ : Mu) (Q : List D → Mu → Prop) : Prop := eid Γ tg iter δ μ fun ds S μ1 => ds.length ≤ 1000000 ∧ ∃ I : Nat → List D → Mu → Prop, I 0 [] μ1 ∧ (∀ i acc μ', i ≤ ds.length → I i acc μ' → S μ' ∧ acc.length ≤ i) ∧
      (∀ i d acc μ', ds[i]? = some d → I i acc μ' → allB Γ scope fun Γb => gv Γb tg d vs (wipeD δ vs) μ' fun δ2 μ2 => allB Γ scope fun Γc => eif Γc ifs δ2 μ2 fun b μ3 =>
        if b = true then allB Γ scope fun Γd => ed Γd elt δ2 μ3 fun r μ4 => I (i + 1) (acc ++ [r]) μ4 else I (i + 1) acc μ3) ∧ ∀ acc μ', I ds.length acc μ' → Q acc μ'
/-- the readings of a block's parts, of all blocks at once -/
def wgB (X : Cx) (scope : Scope) (tg : Expr) : TG := fun v σ H Q => ∀ s H0 C cl fp, wg (X.blk s H0 scope (compEnvC scope cl C X.env) fp) tg v σ H Q
def wtB (X : Cx) (scope : Scope) (ifs : List Expr) : TT := fun σ H Q => ∀ s H0 C cl fp, wif (X.blk s H0 scope (compEnvC scope cl C X.env) fp) ifs σ H Q
def weB (X : Cx) (scope : Scope) (elt : Expr) : TE := fun σ H Q => ∀ s H0 C cl fp, we (X.blk s H0 scope (compEnvC scope cl C X.env) fp) elt σ H Q
theorem pg_wgB {X : Cx} (s H C cl fp) : PG (X.blk s H scope (compEnvC scope cl C X.env) fp) tg (wgB X scope tg) := ⟨fun pins s' σ H' v u Q I r h => h s H C cl fp pins s' u I r⟩
theorem pts_wtB {X : Cx} (s H C cl fp) : PTs (X.blk s H scope (compEnvC scope cl C X.env) fp) ifs (wtB X scope ifs) := ⟨fun pins s' σ H' Q I h => (pts_wif ifs).run pins s' σ H' Q I (h s H C cl fp)⟩
theorem pe_weB {X : Cx} (s H C cl fp) : PE (X.blk s H scope (compEnvC scope cl C X.env) fp) elt (weB X scope elt) := ⟨fun pins s' σ H' Q I h => h s H C cl fp pins s' I⟩
theorem wipe_wipe {σ : L2.St} : ∀ {vs : List Nat}, L2.wipe (L2.wipe σ vs) vs = L2.wipe σ vs := by
  have key : ∀ (vs us : List Nat) (σ : L2.St), (∀ u ∈ us, u ∈ vs) → L2.wipe (L2.wipe σ us) vs = L2.wipe σ vs := by
    intro vs us
    induction us with
    | nil => intro σ _; rfl
    | cons u us ih =>
      intro σ h
      show L2.wipe ((L2.wipe σ us).set u none) vs = _
      rw [wipe_set_in (h u List.mem_cons_self)]
      exact ih σ fun x hx => h x (List.mem_cons_of_mem _ hx)
  exact fun {vs} => key vs vs σ fun _ h => h
/-- the block's state: the new list stands apart -/
structure LcAt (Γ : Ct) (F1 : Hp) (δ : Dl) (σ : L2.St) (Dl : Addr) (acc : List D) (μ : Mu) (H F : Hp) : Prop where
  sm : Same F1 F
  at_ : At Γ F δ μ σ H
  ls : ∃ vs, H Dl = some (.lst vs) ∧ Dps Γ.X.K F acc vs
  f : F Dl = none
  m : Dl ∉ dom μ
theorem LcAt.step {F1 F F2 H H2 : Hp} {σ σb : L2.St} {δb : PD.Dl} {Da : Addr} {acc : List D} {μ μ2 : Mu} (L : LcAt Γ F1 δ σ Da acc μ H F) (st : Step F μ H F2 μ2 H2) (sx : Sx Γ.X.K F2 μ2 H2) : LcAt Γ F1 δ σ Da acc μ2 H2 F2 := by
  obtain ⟨vs, h1, h2⟩ := L.ls
  refine ⟨L.sm.trans st.ext, ⟨L.at_.st.trans st, sx, L.at_.fr.mono st.ext⟩, ⟨vs, st.keep _ _ h1 L.m, h2.mono st.ext⟩, ?_, fun hm => ?_⟩
  · cases e : F2 Da with
    | none => rfl
    | some o =>
      rcases st.new _ _ e L.f with q | q
      · rw [h1] at q; cases q
      · exact absurd q L.m
  · rcases st.cell _ hm with q | q
    · exact L.m q
    · rw [h1] at q; cases q
theorem lcd_run {vs : List Nat} {Q : List D → Mu → Prop} (h : lcd Γ elt tg iter ifs scope vs δ μ Q) (F σ H) (a : At Γ F δ μ σ H) :
    tLc (wi Γ.X tg iter) (wgB Γ.X scope tg) (wtB Γ.X scope ifs) (weB Γ.X scope elt) vs σ H (PostE Γ F δ σ fun d μ' => ∃ ds, d = .lst ds ∧ Q ds μ') := by
  refine wi_mono (h F σ H a) fun J H1 ⟨F1, ds, S, μ1, s1, a1, ok, hz, I, h0, hS, hb, hd⟩ => fun Da hD => ?_
  have h0D : Γ.H0 Da = none ∨ Da ∈ dom Γ.μ0 := a1.st.back hD
  refine ⟨fun i m H' => m = ds.length - i ∧ i ≤ ds.length ∧ ∃ F' acc μ', LcAt Γ F1 δ σ Da acc μ' H' F' ∧ I i acc μ', ⟨ds.length, by simp, Nat.zero_le _, F1, [], μ1, ⟨Same.refl _, a1.ext (same_upd hD), ⟨[], upd_same, Dps.nil⟩, a1.sx.sub.free hD, fun hm => ?_⟩, h0⟩, ?_⟩
  · obtain ⟨c, hc, e⟩ := List.mem_map.mp hm
    obtain ⟨u, hu⟩ := (a1.sx.cells c hc).there
    rw [e, hD] at hu; cases hu
  rintro i m H' ⟨rfl, hi, F', acc, μ', L, hI⟩
  obtain ⟨hSi, hacc⟩ := hS i acc μ' hi hI
  by_cases hlt : i < ds.length
  · have e : ds[i]? = some ds[i] := List.getElem?_eq_getElem hlt
    have ah := L.at_.here
    obtain ⟨g1, g2⟩ := ok.go (Γ.here L.at_.st) rfl i F' δ μ' σ H' L.sm ah hSi _ e
    refine .inr ⟨g1, fun H2 => ∃ F2 acc2 μ2, LcAt Γ F1 δ σ Da acc2 μ2 H2 F2 ∧ I (i + 1) acc2 μ2, fun H2 ⟨F2, acc2, μ2, L2', q2⟩ => ⟨ds.length - (i + 1), by omega, rfl, hlt, F2, acc2, μ2, L2', q2⟩, fun x H2 y => ?_⟩
    obtain ⟨F2, s2, a2, r2⟩ := g2 x H2 y
    have LL := L.step (σb := σ) (δb := δ) a2.st a2.sx
    intro sB HB C cl fp
    have aB : At (Γ.blk scope sB HB C cl fp F2 μ' H2) F2 (wipeD δ vs) μ' (L2.wipe σ vs) H2 := ⟨Step.refl _ _ _, LL.at_.sx, LL.at_.fr.wipe vs⟩
    refine wg_mono (hb i _ acc μ' e hI sB HB C cl fp F2 μ' H2 F2 (L2.wipe σ vs) H2 x aB r2) fun σ3 H3 ⟨w3, F3, δ3, μ3, s3, a3, q3⟩ => ⟨w3.trans wipe_wipe, ?_⟩
    have L3 := LL.step (σb := σ) (δb := δ) a3.st a3.sx
    intro sB2 HB2 C2 cl2 fp2
    have aC : At (Γ.blk scope sB2 HB2 C2 cl2 fp2 F3 μ3 H3) F3 δ3 μ3 σ3 H3 := ⟨Step.refl _ _ _, a3.sx, a3.fr⟩
    refine eif_run (q3 sB2 HB2 C2 cl2 fp2 F3 μ3 H3) aC fun b H4 ⟨F4, μ4, s4, a4, q4⟩ => ?_
    have L4 := L3.step (σb := σ) (δb := δ) a4.st a4.sx
    cases b with
    | true =>
      rw [if_pos rfl] at q4 ⊢
      intro sB5 HB5 C5 cl5 fp5
      have aE : At (Γ.blk scope sB5 HB5 C5 cl5 fp5 F4 μ4 H4) F4 δ3 μ4 σ3 H4 := ⟨Step.refl _ _ _, a4.sx, a4.fr⟩
      refine we_mono (q4 sB5 HB5 C5 cl5 fp5 F4 μ4 H4 F4 σ3 H4 aE) fun v H5 ⟨F5, r, μ5, s5, a5, r5, q5⟩ => ?_
      have L5 := L4.step (σb := σ) (δb := δ) a5.st a5.sx
      obtain ⟨ws, h1, h2⟩ := L5.ls
      refine ⟨ws, h1, ?_, F5, acc ++ [r], μ5, ⟨L5.sm, L5.at_.updFree h0D L5.f L5.m, ⟨ws ++ [v], upd_same, h2.append (Dps.cons r5 Dps.nil)⟩, L5.f, L5.m⟩, q5⟩
      rw [← h2.length, sizeLine_eq]
      omega
    | false =>
      rw [if_neg Bool.false_ne_true] at q4 ⊢
      exact ⟨F4, acc, μ4, L4, q4⟩
  · have e : i = ds.length := by omega
    subst e
    refine .inl ⟨ok.stop Γ rfl _ F' δ μ' σ H' L.sm L.at_ hSi (Nat.le_refl _), ?_⟩
    obtain ⟨ws, h1, h2⟩ := L.ls
    -- the list is known from now on
    have sF := same_upd (o := HO.lst ws) L.f
    have ah := L.at_
    have a2 : At Γ (upd F' Da (.lst ws)) δ μ' σ H' := by
      refine ⟨⟨ah.st.ext.trans sF, ah.st.keep, fun b u h hn => ?_, ah.st.cell⟩, ⟨fun b u h => ?_, fun c hc => ?_, ah.sx.nd, fun c hc => (ah.sx.cells c hc).mono sF rfl⟩, ah.fr.mono sF⟩
      · by_cases q : b = Da
        · rw [q]; exact h0D
        · rw [upd_ne q] at h; exact ah.st.new b u h hn
      · by_cases q : b = Da
        · rw [q, upd_same] at h; rw [q, ← h]; exact h1
        · rw [upd_ne q] at h; exact ah.sx.sub _ _ h
      · rw [upd_ne (fun e => L.m (by rw [← e]; exact List.mem_map.mpr ⟨c, hc, rfl⟩))]; exact ah.sx.off c hc
    exact ⟨_, .lst acc, μ', s1.trans (L.sm.trans sF), a2, dpl upd_same (h2.mono sF), acc, rfl, hd acc μ' hI⟩
theorem ed_lc {own : List (Str × Nat)} {Q : D → Mu → Prop} (own_ : List (Str × Nat)) (e : own = own_) (hc : Γ.X.calm = true) (hN : Γ.X.N.Nodup) (ok : BlkOk Γ.X.N Γ.X.env.scope scope own) (h : lcd Γ elt tg iter ifs scope (own.map (·.2)) δ μ fun ds μ' => Q (.lst ds) μ')
    (hs : ∀ x, foldedSetIterable iter Γ.X.env x = pure x := by intro _; rfl) : ed Γ (.ListComp elt [⟨tg, iter, ifs, 0⟩] scope pos) δ μ Q := fun F σ H a =>
  we_mono (we_of (pe_lc hc hN pi_wi ok pg_wgB pts_wtB pe_weB hs) (lcd_run h F σ H a)) fun v H' ⟨F', d, μ', s, a', r, ds, e, q⟩ => ⟨F', d, μ', s, a', r, by rw [e]; exact q⟩
/-- name = [..] -/
theorem sd_setLc {own : List (Str × Nat)} {E : En} {i : Nat} {y : Str} {py spos : Pos} (hc : Γ.X.calm = true) (hN : Γ.X.N.Nodup) (hy : Γ.X.N[i]? = some y) (hyl : Γ.X.env.scope.names.lookup y = some .local)
    (hsw : swapsWith (.ListComp elt [⟨tg, iter, ifs, 0⟩] scope pos) (some (.Name y py)) spos.line Γ.X.env = pure true) (ok : BlkOk Γ.X.N Γ.X.env.scope scope own)
    (h : lcd Γ elt tg iter ifs scope (own.map (·.2)) δ μ fun ds μ' => E.nx (δ.set i (some (.lst ds))) μ') (hs : ∀ x, foldedSetIterable iter Γ.X.env x = pure x := by intro _; rfl) :
    sd Γ (.Assign [.Name y py] (.ListComp elt [⟨tg, iter, ifs, 0⟩] scope pos) spos) δ μ E := fun F σ H a => by
  have key := lcd_run h F σ H a
  refine ws_of (ps_setLc (g := wgB Γ.X scope tg) (tt := wtB Γ.X scope ifs) (te := weB Γ.X scope elt) hc hN hy hyl hsw pi_wi ok pg_wgB pts_wtB pe_weB hs) ?_
  have mono : ∀ {Q Q' : VK}, (∀ v H', Q v H' → Q' v H') → tLc (wi Γ.X tg iter) (wgB Γ.X scope tg) (wtB Γ.X scope ifs) (weB Γ.X scope elt) (own.map (·.2)) σ H Q → tLc (wi Γ.X tg iter) (wgB Γ.X scope tg) (wtB Γ.X scope ifs) (weB Γ.X scope elt) (own.map (·.2)) σ H Q' := fun k h =>
    wi_mono h fun J H1 z Da hD => by
      obtain ⟨W, w0, t⟩ := z Da hD
      refine ⟨W, w0, fun i m H' w => ?_⟩
      rcases t i m H' w with ⟨q1, q2⟩ | q
      · exact .inl ⟨q1, k _ _ q2⟩
      · exact .inr q
  exact mono (fun v H' ⟨F', d, μ', s, a', r, ds, e, q⟩ => by subst e; exact ⟨F', _, μ', s, a'.fr_set i r, q⟩) key
end
end PD
/-! PD5: defs, calls, fields, methods, instances. -/
namespace PD
open PySem PySem.Spec PyProof.Rows L2
/-! ### room, in which no repr is under way -/
structure Room (k : Nat) (A : Around) : Prop where
  r : L2.Room k A
  gd : A.guards = some []
section
variable {j k : Nat} {A : Around}
theorem Room.mono (r : Room k A) (h : j ≤ k) : Room j A := ⟨r.r.mono h, r.gd⟩
theorem Room.deeper (r : Room (k + 1) A) (env : Env) : Room k (A.deeper env) := ⟨r.r.deeper env, r.gd⟩
theorem Room.in1 (r : Room (k + 1) A) : Room k A.in1 := ⟨r.r.in1, r.gd⟩
theorem make_guards {C : Addr} {us : List Value} {kw : List (Str × Value)} : (A.under (.builtin "type.__call__" ⟨.ref C :: us, kw⟩)).guards = A.guards := by
  have e : guardIds.contains "type.__call__" = false := by decide +kernel
  have e1 : Code.isGuard (.builtin "type.__call__" ⟨.ref C :: us, kw⟩) = false := e
  have e2 : Code.guards (.builtin "type.__call__" ⟨.ref C :: us, kw⟩) = [] := by
    unfold Code.guards
    rw [e1, if_neg Bool.false_ne_true]
  show pushGuards (Code.guards (.builtin "type.__call__" ⟨.ref C :: us, kw⟩)) A.guards = A.guards
  rw [e2]
  rfl
theorem Room.make (r : Room (k + 1) A) (C : Addr) (us : List Value) (kw : List (Str × Value)) : Room k (A.under (.builtin "type.__call__" ⟨.ref C :: us, kw⟩)) := ⟨r.r.make C us kw, make_guards.trans r.gd⟩
theorem Room.units (r : Room k A) : A.units + 64 < cLine := r.r.units
theorem Room.hd (r : Room k A) : A.handled = none := r.r.hd
theorem Room.dp (r : Room k A) : A.depth + 3 * k + 5 < recursionLimit := r.r.dp
theorem Room.un (r : Room k A) : A.units + 16 * k + 200 < cLine := r.r.un
end
/-! ### what a def promises: b tells whether what it raises has None for its context -/
def CXB : Md → Program → World → CXT
  | some true, P, w => L2N.CX P w
  | some false, P, w => L2.CX P w
  | none, P, w => CXM P w
structure FnOk (P : Program) (w : World) (K : PySem.W.Frag) (mg : Str → Option Value) (base : Heap) (b : Md) (k : Nat) (f : Addr) (fd : FuncData) (ps : List Str) (sp : Sp) : Prop where
  len : ∀ vs H Q E, sp vs H Q E → vs.length = ps.length
  run : ∀ (A : Around) (outer : List Env) (s : Shared) (H : Hp) (args : Args) (us : List Value) (vs : List V) (Q : VK) (E : XK), Room k A → Env0 P w K mg base A outer s H → BindsTo s fd args (ps.zip us) → Vals vs us → sp vs H Q E →
    codeAny (model P w) A (.call (.ref f) args) (CR (CXB b P w) outer P w H s Q E) s
section
variable {P : Program} {w : World} {K : PySem.W.Frag} {mg : Str → Option Value} {base : Heap} {b : Md} {j k : Nat} {f : Addr} {fd : FuncData} {ps : List Str} {sp sp' : Sp}
theorem FnOk.imp (G : FnOk P w K mg base b k f fd ps sp) (h : ∀ vs H Q E, sp' vs H Q E → sp vs H Q E) : FnOk P w K mg base b k f fd ps sp' where
  len := fun vs H Q E q => G.len vs H Q E (h _ _ _ _ q)
  run := fun A outer s H args us vs Q E r e bd v q => G.run A outer s H args us vs Q E r e bd v (h _ _ _ _ q)
/-- a def's body, stepped through in its own context -/
theorem FunD.okG {x qual : Str} {params : Arguments} {body : List Stmt} {scope : Scope} {dvs : List V} {kws : List (Str × V)} {N : List Str} (F : FunD K x qual params body scope dvs kws f fd) (S : FnScope N ps scope) (len : ∀ vs H Q E, sp vs H Q E → vs.length = ps.length)
    (hb : ∀ (cdv : Value) (A : Around) (outer : List Env) (s : Shared) (H : Hp) (vs : List V) (Q : VK) (E : XK), Room k (A.deeper (envOfC qual scope s.heap.objs.size f cdv)) → sp vs H Q E →
      wss (cxOf (CXB b P w) P w K mg base N qual scope f cdv A outer s H E) body { nx := fun _ H' => Q .non H', rt := Q } (L2.start N vs) H) : FnOk P w K mg base b (k + 1) f fd ps sp := by
  obtain ⟨oc, od, dV, kV, doc, pm, an, cdv, ct, osl, rfl, look, code, _, _⟩ := F.ex
  refine ⟨len, fun A outer s H args us vs Q E room e0 bound rel want => ?_⟩
  have kin : K.In s.heap := e0.mod.kin.keeps fun c o e => (e0.bs c o e).1
  have kinds : ∀ y ∈ ps.zip us, scope.names.lookup y.1 = some .local ∨ (scope.names.lookup y.1 = some .cell ∧ ((cellsFrom (s.heap.objs.size + 1) scope.names []).lookup y.1).isSome = true) := by
    rintro ⟨y, u⟩ hy
    exact (S.par y (List.of_mem_zip hy).1).imp id fun q => ⟨q, PySem.W.cellsFrom_some _ _ _ (.inl q)⟩
  refine codeAny_call_function room.r.depth (kin _ _ look) rfl S.co S.gen rfl (PySem.W.codeRec_of kin code) (bound _ _ _ _ (wpAny_newFunctionEnv_cells S.kind kinds fun env ee s1 x => ?_))
  cases ee
  refine ⟨(e0.mod.nolimit.keeps fun c o e => (e0.bs c o e).1).keeps x.toInCall.keep, codeAny_func ?_⟩
  have go := hb cdv A outer s H vs Q E (room.deeper _) want [] s1 (inv_start S room.hd e0 (len _ _ _ _ want) rel x)
  refine wpAny_mono go (fun res s' z => ?_) fun _ _ z => z
  match res, z with
  | .ret u, ⟨v, _, H', J, rv, q⟩ => exact ⟨v, H', J.os, J.bare, J.base, J.hok, rv, q⟩
  | .next, ⟨_, H', J, q⟩ => exact ⟨V.non, H', J.os, J.bare, J.base, J.hok, rfl, q⟩
  | .brk, ⟨_, _, _, q⟩ => exact q.elim
  | .cont, ⟨_, _, _, q⟩ => exact q.elim
end
section
variable {X : Cx} {b : Md} {k : Nat} {f : Addr} {fd : FuncData} {ps : List Str} {sp : Sp} {dvs : List V} {ds : List Value} {E : L2.St → XK} {x : Str} {p pos : Pos} {e : Expr} {es : List Expr} {t : TA}
theorem run_fnSD {pins : List (Addr × Obj)} {σ : L2.St} {H : Hp} {s : Shared} {Q : VK} {us : List Value} {vs : List V} (G : FnOk X.prog X.w X.K X.mg X.base b k f fd ps sp) (hr : Room k X.A) (hb : Binds X.K fd ps ds) (hd : Vals dvs ds) (hx : PassesAt (CXB b X.prog X.w) X σ (E σ))
    (I : Inv X pins σ H s) (r : Vals vs us) (h : sp (vs ++ dvs) H Q (E σ)) : wpAny (model X.prog X.w) X.A (call (.ref f) us) (EP X pins σ Q) X.xe s := by
  have rr := r.append hd
  have hn : (us ++ ds).length = ps.length := rr.length.symm.trans (G.len _ _ _ _ h)
  refine wpAny_call (codeAny_mono (G.run X.A X.stack s H ⟨us, []⟩ _ _ Q (E σ) hr I.env0 (hb s us I.kIn hn) rr h) fun res s' z => ?_)
  match res, z with
  | .error er, z => exact hx pins H s er s' I z
  | .ok (.ret u), z => exact I.after z
theorem pe_callSD (G : FnOk X.prog X.w X.K X.mg X.base b k f fd ps sp) (hr : Room k X.A) (hg : Gl X x) (hm : X.mg x = some (.ref f)) (hk : PySem.W.keepIn X.K (.ref f) = true) (hb : Binds X.K fd ps ds) (hd : Vals dvs ds) (hx : ∀ σ, PassesAt (CXB b X.prog X.w) X σ (E σ))
    (ha : PA X (e :: es) t) (hdb : (x == ("__debug__" : Str)) = false := by decide) (he : starEach (e :: es) X.env = (false, eval e X.env) :: starEach es X.env := by rfl) (hpl : (backTo pos (starEach es X.env)).any (·.1) = false := by rfl) :
    PE X (.Call (.Name x p) (e :: es) [] pos) (tCallSD sp dvs E t) where
  run := fun pins s σ H Q I h => wpAny_Call_Name_kw (ld_glob I hg hm (PySem.W.callWith_K (h₀ := X.base) I.ok.mod.kin hk (thn (ha.run pos pins s σ H _ I h) fun us s1 ⟨vs, H1, I1, r, q⟩ => ⟨I1.kIn, run_fnSD G hr hb hd (hx σ) I1 r q⟩) he hpl) hdb)
end
theorem passAt {b : Md} {X : Cx} {W : WX} (tk : TkB b X W) (σ : L2.St) : PassesAt (CXB b X.prog X.w) X σ (WE W σ) := by
  match b, tk with
  | some true, tk => exact L2N.passAt tk σ
  | some false, tk => exact L2.passAt tk σ
  | none, tk => exact fun _ _ _ e s' I c => tk e s' (XM.of_call I (fun _ _ _ h => h) c)
/-- a def's promise over data: the arguments, the cells, the wanted end, the wanted exception -/
abbrev SpD := List D → Mu → (D → Mu → Prop) → (Value → List Str → List D → Mu → Prop) → Prop
def spOf (K : PySem.W.Frag) (n : Nat) (sp : SpD) : Sp := fun vs H Q E => ∃ F μ ds Qd Ed, Sx K F μ H ∧ Dps K F ds vs ∧ ds.length = n ∧ sp ds μ Qd Ed ∧ (∀ v H' F' μ' d, Step F μ H F' μ' H' → Sx K F' μ' H' → Dp K F' d v → Qd d μ' → Q v H') ∧
  (∀ cls dx H' F' μ' ns xs, Step F μ H F' μ' H' → Sx K F' μ' H' → XdOk K F' dx ns xs → Ed cls ns xs μ' → E cls dx H')
abbrev FnD (b : Md) (P : Program) (w : World) (K : PySem.W.Frag) (mg : Str → Option Value) (base : Heap) (k : Nat) (f : Addr) (fd : FuncData) (ps : List Str) (sp : SpD) : Prop := FnOk P w K mg base b k f fd ps (spOf K ps.length sp)
theorem FnD.imp {b : Md} {P : Program} {w : World} {K : PySem.W.Frag} {mg : Str → Option Value} {base : Heap} {k : Nat} {f : Addr} {fd : FuncData} {ps : List Str} {sp sp' : SpD} (F : FnD b P w K mg base k f fd ps sp) (h : ∀ ds μ Q E, sp' ds μ Q E → sp ds μ Q E) : FnD b P w K mg base k f fd ps sp' :=
  FnOk.imp F fun vs H Q E ⟨F', μ, ds, Qd, Ed, a, b, c, d, e⟩ => ⟨F', μ, ds, Qd, Ed, a, b, c, h _ _ _ _ d, e⟩
/-! ### a def's body -/
section
variable {P : Program} {w : World} {K : PySem.W.Frag} {mg : Str → Option Value} {base : Heap}
theorem tkB_of (b : Md) {N : List Str} {qual : Str} {scope : Scope} {f : Addr} {cdv : Value} {A : Around} {outer : List Env} {s : Shared} {H : Hp} {E : XK} : TkB b (cxOf (CXB b P w) P w K mg base N qual scope f cdv A outer s H E) (fun cls d _ H' => E cls d H') := by
  match b with
  | some true => exact L2N.takes_of (X := cxOf (L2N.CX P w) P w K mg base N qual scope f cdv A outer s H E) rfl rfl rfl rfl
  | some false => exact L2.takes_of (X := cxOf (L2.CX P w) P w K mg base N qual scope f cdv A outer s H E) rfl rfl rfl rfl
  | none => exact takesM_of (X := cxOf (CXM P w) P w K mg base N qual scope f cdv A outer s H E) rfl rfl rfl rfl
/-- the context of a def's body -/
@[reducible] def mkCt (b : Md) (P : Program) (w : World) (K : PySem.W.Frag) (mg : Str → Option Value) (base : Heap) (N : List Str) (qual : Str) (scope : Scope) (f : Addr) (cdv : Value) (A : Around) (outer : List Env) (s : Shared) (H : Hp) (F : Hp) (μ : Mu) (Ed : Value → List Str → List D → Mu → Prop) : Ct :=
  ⟨cxOf (CXB b P w) P w K mg base N qual scope f cdv A outer s H (fun cls dx H' => ∃ F' μ' ns xs, Step F μ H F' μ' H' ∧ Sx K F' μ' H' ∧ XdOk K F' dx ns xs ∧ Ed cls ns xs μ'), F, μ, H, fun cls ns xs _ μ' => Ed cls ns xs μ', b,
    (tkB_of b).imp fun c d σ H' h => by
      obtain ⟨F', μ', δ, ns, ds, s1, s2, _, x, z⟩ := h
      exact ⟨F', μ', ns, ds, s1, s2, x, z⟩,
    passes_of (X := cxOf (CXB b P w) P w K mg base N qual scope f cdv A outer s H (fun cls dx H' => ∃ F' μ' ns xs, Step F μ H F' μ' H' ∧ Sx K F' μ' H' ∧ XdOk K F' dx ns xs ∧ Ed cls ns xs μ')) rfl⟩
def startD (N : List Str) (ds : List D) : Dl := ds.map some ++ List.replicate (N.length - ds.length) none
theorem fr_start {F : Hp} {N : List Str} {ds : List D} {vs : List V} (r : Dps K F ds vs) : Fr K F (L2.start N vs) (startD N ds) := by
  refine ⟨?_, fun i d h => ?_⟩
  · unfold L2.start startD
    simp only [List.length_append, List.length_map, List.length_replicate, r.length]
  · unfold startD at h
    unfold L2.start
    by_cases hi : i < ds.length
    · rw [List.getElem?_append_left (by rw [List.length_map]; exact hi), List.getElem?_map] at h
      rw [List.getElem?_append_left (by rw [List.length_map, ← r.length]; exact hi), List.getElem?_map]
      cases e : ds[i]? with
      | none => rw [e] at h; cases h
      | some d' =>
        rw [e] at h
        have := Option.some.inj (Option.some.inj h)
        subst this
        obtain ⟨v, e2, r2⟩ := r.get e
        rw [e2]
        exact ⟨v, rfl, r2⟩
    · rw [List.getElem?_append_right (by rw [List.length_map]; omega), List.getElem?_replicate] at h
      split at h <;> cases h
/-- THE RULE of a def -/
theorem fnD_of {b : Md} {x qual : Str} {params : Arguments} {body : List Stmt} {scope : Scope} {dvs : List V} {kws : List (Str × V)} {f : Addr} {fd : FuncData} {N ps : List Str} {k : Nat} {sp : SpD} (F : FunD K x qual params body scope dvs kws f fd) (S : FnScope N ps scope)
    (hb : ∀ (cdv : Value) (A : Around) (outer : List Env) (s : Shared) (H F : Hp) (μ : Mu) (ds : List D) (Qd : D → Mu → Prop) (Ed : Value → List Str → List D → Mu → Prop), Room k (mkCt b P w K mg base N qual scope f cdv A outer s H F μ Ed).X.A → ds.length = ps.length → sp ds μ Qd Ed →
      sds (mkCt b P w K mg base N qual scope f cdv A outer s H F μ Ed) body (startD N ds) μ { nx := fun _ μ' => Qd .non μ', rt := Qd }) : FnD b P w K mg base (k + 1) f fd ps sp := by
  refine FunD.okG F S (fun vs H Q E h => ?_) (fun cdv A outer s H vs Q E hr h => ?_)
  · obtain ⟨F', μ, ds, Qd, Ed, _, r, l, _⟩ := h
    rw [← l, r.length]
  · obtain ⟨F', μ, ds, Qd, Ed, sx, r, l, q, kq, ke⟩ := h
    intro pins s' I
    -- the wish E is weaker than ours
    have z := hb cdv A outer s H F' μ ds Qd Ed hr l q F' (L2.start N vs) H ⟨Step.refl _ _ _, sx, fr_start r⟩ pins s'
    have I' : Inv (mkCt b P w K mg base N qual scope f cdv A outer s H F' μ Ed).X pins (L2.start N vs) H s' := I.wish _
    refine wpAny_mono (z I') (fun fl s2 hq => ?_) (fun e s2 he => ?_)
    · have hq' : SP (cxOf (CXB b P w) P w K mg base N qual scope f cdv A outer s H E) pins (En.to { nx := fun _ μ' => Qd .non μ', rt := Qd } (mkCt b P w K mg base N qual scope f cdv A outer s H F' μ Ed) F') fl s2 := by
        cases fl with
        | next => obtain ⟨σ', H', I2, q⟩ := hq; exact ⟨σ', H', I2.wish _, q⟩
        | brk => obtain ⟨σ', H', I2, q⟩ := hq; exact ⟨σ', H', I2.wish _, q⟩
        | cont => obtain ⟨σ', H', I2, q⟩ := hq; exact ⟨σ', H', I2.wish _, q⟩
        | ret u => obtain ⟨v, σ', H', I2, rr, q⟩ := hq; exact ⟨v, σ', H', I2.wish _, rr, q⟩
      refine SP_mono ⟨fun σ' H' hh => ?_, fun v H' hh => ?_, fun σ' H' hh => ?_, fun σ' H' hh => ?_⟩ hq'
      · obtain ⟨F2, δ', μ', _, a, q⟩ := hh
        exact kq .non H' F2 μ' .non a.st a.sx dpn q
      · obtain ⟨F2, d, μ', _, st, sx2, rd, q⟩ := hh
        exact kq v H' F2 μ' d st sx2 rd q
      · obtain ⟨_, _, _, _, _, q⟩ := hh; exact q.elim
      · obtain ⟨_, _, _, _, _, q⟩ := hh; exact q.elim
    · have cm : ∀ {e' : Value} {s3 : Shared}, CXB b P w outer H s (fun cls dx H' => ∃ F2 μ' ns xs, Step F' μ H F2 μ' H' ∧ Sx K F2 μ' H' ∧ XdOk K F2 dx ns xs ∧ Ed cls ns xs μ') e' s3 → CXB b P w outer H s E e' s3 := fun {e' s3} h => by
        rcases b with _ | _ | _ <;>
        (obtain ⟨a, B, H', cls, d, h1, h2, h3, h4, h5, h6, h7, h8⟩ := h
         obtain ⟨F2, μ', ns, xs, y1, y2, y3, y4⟩ := h8
         exact ⟨a, B, H', cls, d, h1, h2, h3, h4, h5, h6, h7, ke _ _ _ F2 μ' ns xs y1 y2 y3 y4⟩)
      exact wpAny_mono (show wpAny (model P w) (A.deeper (envOfC qual scope s.heap.objs.size f cdv)) (leaving (envOfC qual scope s.heap.objs.size f cdv) e) (fun _ s'' => _) (fun e' s'' => _) s2 from he) (fun _ s3 h => cm h) fun e' s3 h => cm h
end
/-! ### calls of defs -/
section
variable {Γ : Ct} {δ : Dl} {μ : Mu} {Q : D → Mu → Prop} {pos : Pos}
/-- what a call wants of a promise -/
theorem spOf_at {K : PySem.W.Frag} {n : Nat} {sp : SpD} {F H : Hp} {σ : L2.St} {vs : List V} {ds : List D} (hK : Γ.X.K = K) (a : At Γ F δ μ σ H) (r : Dps K F ds vs) (hl : ds.length = n) (h : sp ds μ Q fun cls ns xs μ' => Γ.W cls ns xs δ μ') :
    spOf K n sp vs H (PostE Γ F δ σ Q) (fun cls dx H' => WofD Γ.X.K Γ.F0 Γ.μ0 Γ.H0 Γ.W cls dx σ H') := by
  subst hK
  exact ⟨F, μ, ds, Q, _, a.sx, r, hl, h, fun v H' F' μ' d st sx rd q => ⟨F', d, μ', st.ext, ⟨a.st.trans st, sx, a.fr.mono st.ext⟩, rd, q⟩,
    fun cls dx H' F' μ' ns xs st sx x w => ⟨F', μ', δ, ns, xs, a.st.trans st, sx, a.fr.mono st.ext, x, w⟩⟩
variable {k : Nat} {f C : Addr} {fd : FuncData} {ps : List Str} {sp : SpD} {dvs : List V} {dds : List D} {dus : List Value} {x m : Str} {p apos : Pos} {e o : Expr} {es : List Expr}
/-- the defaults as data -/
def DfD (K : PySem.W.Frag) (dds : List D) (dvs : List V) : Prop := ∀ F, Dps K F dds dvs
theorem DfD.nil {K : PySem.W.Frag} : DfD K [] [] := fun _ => Dps.nil
theorem ed_call (G : FnD Γ.nn Γ.X.prog Γ.X.w Γ.X.K Γ.X.mg Γ.X.base k f fd ps sp) (hr : Room k Γ.X.A) (hm : Γ.X.mg x = some (.ref f)) (hk : PySem.W.keepIn Γ.X.K (.ref f) = true) (hb : Binds Γ.X.K fd ps dus) (hd : Vals dvs dus) (hdd : DfD Γ.X.K dds dvs)
    (h : ea Γ (e :: es) δ μ fun ds μ1 => (ds ++ dds).length = ps.length ∧ sp (ds ++ dds) μ1 Q fun cls ns xs μ' => Γ.W cls ns xs δ μ') (hg : Gl Γ.X x := by rfl)
    (hdb : (x == ("__debug__" : Str)) = false := by decide +kernel) (he : starEach (e :: es) Γ.X.env = (false, eval e Γ.X.env) :: starEach es Γ.X.env := by rfl) (hpl : (backTo pos (starEach es Γ.X.env)).any (·.1) = false := by rfl) :
    ed Γ (.Call (.Name x p) (e :: es) [] pos) δ μ Q := fun F σ H a =>
  we_of (pe_callSD (E := fun σ cls dx H' => WofD Γ.X.K Γ.F0 Γ.μ0 Γ.H0 Γ.W cls dx σ H') G hr hg hm hk hb hd (fun σ => passAt Γ.tk σ) pa_wa hdb he hpl) (wa_mono (h F σ H a) fun vs H1 ⟨F1, ds, μ1, s1, a1, r1, hl, q⟩ => by
    obtain ⟨F2, μ2, ds2, Qd, Ed, b1, b2, b3, b4, b5, b6⟩ := spOf_at (K := Γ.X.K) (n := ps.length) (sp := sp) rfl a1 (r1.append (hdd F1)) hl q
    exact ⟨F2, μ2, ds2, Qd, Ed, b1, b2, b3, b4, fun v H' F' μ' d c1 c2 c3 c4 => (b5 v H' F' μ' d c1 c2 c3 c4).up s1, b6⟩)
/-! ### fields -/
/-- an instance's field over data: known or owned -/
def FldD (C : Addr) (f : Str) (x : D) (μ : Mu) (d : D) : Prop := match x with
  | .obj C' ns ds => C' = C ∧ (ns.zip ds).lookup f = some d
  | .ref p => ∃ dx ns ds, (p, Cell.ins C dx ns ds) ∈ μ ∧ (ns.zip ds).lookup f = some d
  | _ => False
theorem lookup_zip {K : PySem.W.Frag} {F : Hp} {f : Str} {d : D} : ∀ {ds : List D} {gs : List (Str × V)}, Dps K F ds (gs.map (·.2)) → ((gs.map (·.1)).zip ds).lookup f = some d → ∃ v, gs.lookup f = some v ∧ Dp K F d v
  | [], gs, r, h => by
    have e := r.unnil
    cases gs with
    | nil => cases h
    | cons g gs => cases e
  | d' :: ds, gs, r, h => by
    obtain ⟨v, ws, e, r1, r2⟩ := r.uncons
    cases gs with
    | nil => cases e
    | cons g gs =>
      obtain ⟨n, v'⟩ := g
      have e1 : v' = v := (List.cons.inj e).1
      have e2 : gs.map (·.2) = ws := (List.cons.inj e).2
      subst e1
      rw [← e2] at r2
      have h' : (match f == n with | true => some d' | false => ((gs.map (·.1)).zip ds).lookup f) = some d := h
      show ∃ v, (match f == n with | true => some v' | false => gs.lookup f) = some v ∧ Dp K F d v
      cases q : f == n with
      | true => rw [q] at h'; rw [← Option.some.inj h']; exact ⟨v', rfl, r1⟩
      | false => rw [q] at h'; exact lookup_zip r2 h'
theorem fldD_run {F H : Hp} {σ : L2.St} {f : Str} {x d : D} {v : V} (a : At Γ F δ μ σ H) (r : Dp Γ.X.K F x v) (h : FldD C f x μ d) : ∃ p dx gs u, v = .ref p ∧ H p = some (.ins C dx gs) ∧ gs.lookup f = some u ∧ Dp Γ.X.K F d u := by
  cases x with
  | obj C' ns ds =>
    obtain ⟨rfl, h⟩ := h
    rw [Dp] at r
    obtain ⟨p, dx, gs, rfl, h1, rfl, h3⟩ := r
    obtain ⟨u, e, ru⟩ := lookup_zip h3 h
    exact ⟨p, dx, gs, u, rfl, a.sx.sub _ _ h1, e, ru⟩
  | ref p =>
    rw [dpR r]
    obtain ⟨dx, ns, ds, hm, h⟩ := h
    obtain ⟨gs, h1, h2, h3⟩ := a.sx.cells _ hm
    have h2 : gs.map (·.1) = ns := h2
    subst h2
    obtain ⟨u, e, ru⟩ := lookup_zip h3 h
    exact ⟨p, dx, gs, u, rfl, h1, e, ru⟩
  | _ => exact h.elim
theorem ed_fld {fl : Str} (c : Cls Γ.X.K C) (na : NoAttr Γ.X.K C fl) (h : ed Γ e δ μ fun x μ1 => ∃ d, FldD C fl x μ1 d ∧ Q d μ1) (hb : attributeBase e fl Γ.X.env (eval e Γ.X.env) = eval e Γ.X.env := by rfl) : ed Γ (.Attribute e fl pos) δ μ Q := fun F σ H a =>
  we_of (pe_fld pe_we hb) (we_mono (h F σ H a) fun v H1 ⟨F1, x, μ1, s1, a1, r1, d, hf, q⟩ => by
    obtain ⟨p, dx, gs, u, rfl, h1, h2, h3⟩ := fldD_run a1 r1 hf
    exact ⟨p, C, dx, gs, u, rfl, h1, c, na, h2, F1, d, μ1, s1, a1, h3, q⟩)
/-- a class's constant through an instance, a method: what is known of the instance -/
def InsD (C : Addr) (x : D) (μ : Mu) (m : Str) : Prop := match x with
  | .obj C' ns _ => C' = C ∧ m ∉ ns
  | .ref p => ∃ dx ns ds, (p, Cell.ins C dx ns ds) ∈ μ ∧ m ∉ ns
  | _ => False
theorem lookup_none {m : Str} : ∀ {gs : List (Str × V)}, m ∉ gs.map (·.1) → gs.lookup m = none
  | [], _ => rfl
  | (n, v) :: gs, h => by
    have h1 : m ≠ n := fun e => h (by rw [e]; exact List.mem_cons_self)
    have h2 : (m == n) = false := by simpa using h1
    show (match m == n with | true => some v | false => gs.lookup m) = none
    rw [h2]
    exact lookup_none fun z => h (List.mem_cons_of_mem _ z)
theorem insD_run {F H : Hp} {σ : L2.St} {x : D} {v : V} (a : At Γ F δ μ σ H) (r : Dp Γ.X.K F x v) (h : InsD C x μ m) : ∃ p dx gs, v = .ref p ∧ H p = some (.ins C dx gs) ∧ gs.lookup m = none := by
  cases x with
  | obj C' ns ds =>
    obtain ⟨rfl, h⟩ := h
    rw [Dp] at r
    obtain ⟨p, dx, gs, rfl, h1, rfl, h3⟩ := r
    exact ⟨p, dx, gs, rfl, a.sx.sub _ _ h1, lookup_none h⟩
  | ref p =>
    rw [dpR r]
    obtain ⟨dx, ns, ds, hm, h⟩ := h
    obtain ⟨gs, h1, h2, h3⟩ := a.sx.cells _ hm
    have h2 : gs.map (·.1) = ns := h2
    subst h2
    exact ⟨p, dx, gs, rfl, h1, lookup_none h⟩
  | _ => exact h.elim
theorem pe_methS {b : Md} {X : Cx} {E : L2.St → XK} {sp : Sp} {ta : TE} {t : TA} {pl : Sem Bool} (he : PE X o ta) (c : Cls X.K C) (hm : Meth X.K C m f) (F : FnOk X.prog X.w X.K X.mg X.base b k f fd ps sp) (hr : Room k X.A) (hb : Binds X.K fd ps dus) (hd : Vals dvs dus) (hx : ∀ σ, PassesAt (CXB b X.prog X.w) X σ (E σ)) (ha : PA X (e :: es) t)
    (hst : starEach (e :: es) X.env = (false, eval e X.env) :: starEach es X.env := by rfl) (hpl : (backTo pos (starEach es X.env)).any (·.1) = false := by rfl)
    (ht : eval (.Call (.Attribute o m apos) (e :: es) [] pos) X.env = (do
      let ov ← eval o X.env
      standAt apos.atName
      let (f, first) ← holding [ov] (getMethod ov m pl)
      callWith pos f first (backTo pos (starEach (e :: es) X.env)) (backToKw pos (keywordEach [] X.env))) := by rfl) :
    PE X (.Call (.Attribute o m apos) (e :: es) [] pos) (fun σ H Q => ta σ H fun x H1 => ∃ a dx fs, x = .ref a ∧ H1 a = some (.ins C dx fs) ∧ fs.lookup m = none ∧ t σ H1 fun vs H2 => sp (x :: (vs ++ dvs)) H2 Q (E σ)) := by
  refine ⟨fun pins s σ H Q I h => ?_⟩
  refine PySem.W.methodCall_KW (pl := pl) (thn (he.run pins s σ H _ I h) fun u s1 ⟨x, H1, I1, rx, a, dx, fs, ex, ea, l, q⟩ => ?_) ht
  subst ex
  obtain rfl : u = Value.ref a := rx
  refine getmeth_ok I1 ea c hm l ?_
  refine PySem.W.callWith_K (first := [.ref a]) (h₀ := X.base) I.ok.mod.kin hm.kp (thn (ha.run pos pins s1 σ H1 _ I1 q) fun us s2 ⟨vs, H2, I2, r, q2⟩ => ⟨I2.kIn, ?_⟩) hst hpl
  exact run_fnSD (us := .ref a :: us) (vs := .ref a :: vs) F hr hb hd (hx σ) I2 (.cons rfl r) q2
/-- o.m(e, ..) -/
theorem ed_meth {pl : Sem Bool} (c : Cls Γ.X.K C) (hm : Meth Γ.X.K C m f) (G : FnD Γ.nn Γ.X.prog Γ.X.w Γ.X.K Γ.X.mg Γ.X.base k f fd ps sp) (hr : Room k Γ.X.A) (hb : Binds Γ.X.K fd ps dus) (hd : Vals dvs dus) (hdd : DfD Γ.X.K dds dvs)
    (h : ed Γ o δ μ fun x μ1 => InsD C x μ1 m ∧ ea Γ (e :: es) δ μ1 fun ds μ2 => (x :: (ds ++ dds)).length = ps.length ∧ sp (x :: (ds ++ dds)) μ2 Q fun cls ns xs μ' => Γ.W cls ns xs δ μ')
    (hst : starEach (e :: es) Γ.X.env = (false, eval e Γ.X.env) :: starEach es Γ.X.env := by rfl) (hpl : (backTo pos (starEach es Γ.X.env)).any (·.1) = false := by rfl)
    (ht : eval (.Call (.Attribute o m apos) (e :: es) [] pos) Γ.X.env = (do
      let ov ← eval o Γ.X.env
      standAt apos.atName
      let (f, first) ← holding [ov] (getMethod ov m pl)
      callWith pos f first (backTo pos (starEach (e :: es) Γ.X.env)) (backToKw pos (keywordEach [] Γ.X.env))) := by rfl) : ed Γ (.Call (.Attribute o m apos) (e :: es) [] pos) δ μ Q := fun F σ H a =>
  we_of (pe_methS (E := fun σ cls dx H' => WofD Γ.X.K Γ.F0 Γ.μ0 Γ.H0 Γ.W cls dx σ H') pe_we c hm G hr hb hd (fun σ => passAt Γ.tk σ) pa_wa hst hpl ht) (we_mono (h F σ H a) fun v H1 ⟨F1, x, μ1, s1, a1, r1, hi, q1⟩ => by
    obtain ⟨p, dx, gs, rfl, h1, h2⟩ := insD_run a1 r1 hi
    refine ⟨p, dx, gs, rfl, h1, h2, wa_mono (q1 F1 σ H1 a1) fun vs H2 ⟨F2, ds, μ2, s2, a2, r2, hl, q⟩ => ?_⟩
    obtain ⟨F3, μ3, ds2, Qd, Ed, b1, b2, b3, b4, b5, b6⟩ := spOf_at (K := Γ.X.K) (n := ps.length) (sp := sp) rfl a2 (Dps.cons (r1.mono s2) (r2.append (hdd F2))) hl q
    exact ⟨F3, μ3, ds2, Qd, Ed, b1, b2, b3, b4, fun v H' F' μ' d c1 c2 c3 c4 => (b5 v H' F' μ' d c1 c2 c3 c4).up (s1.trans s2), b6⟩)
/-! ### a field of an owned instance is stored -/
def putD (f : Str) (d : D) : List Str → List D → List Str × List D
  | n :: ns, e :: es => if n = f then (n :: ns, d :: es) else (n :: (putD f d ns es).1, e :: (putD f d ns es).2)
  | _, _ => ([f], [d])
theorem putD_ok {K : PySem.W.Frag} {F : Hp} {f : Str} {d : D} {v : V} (rv : Dp K F d v) : ∀ {gs : List (Str × V)} {ds : List D}, Dps K F ds (gs.map (·.2)) → (putF f v gs).map (·.1) = (putD f d (gs.map (·.1)) ds).1 ∧ Dps K F (putD f d (gs.map (·.1)) ds).2 ((putF f v gs).map (·.2))
  | [], ds, r => by
    cases ds with
    | nil => exact ⟨rfl, Dps.cons rv Dps.nil⟩
    | cons d' ds => obtain ⟨_, _, e, _⟩ := r.uncons; cases e
  | (n, u) :: gs, ds, r => by
    cases ds with
    | nil => cases r.unnil
    | cons d' ds =>
      obtain ⟨u', ws, e, r1, r2⟩ := r.uncons
      have e1 : u = u' := (List.cons.inj e).1
      have e2 : gs.map (·.2) = ws := (List.cons.inj e).2
      subst e1
      rw [← e2] at r2
      obtain ⟨h1, h2⟩ := putD_ok rv r2
      show ((if n = f then (n, v) :: gs else (n, u) :: putF f v gs).map (·.1)) = (if n = f then (n :: gs.map (·.1), d :: ds) else (n :: (putD f d (gs.map (·.1)) ds).1, d' :: (putD f d (gs.map (·.1)) ds).2)).1 ∧ Dps K F (if n = f then (n :: gs.map (·.1), d :: ds) else (n :: (putD f d (gs.map (·.1)) ds).1, d' :: (putD f d (gs.map (·.1)) ds).2)).2 ((if n = f then (n, v) :: gs else (n, u) :: putF f v gs).map (·.2))
      by_cases q : n = f
      · simp only [if_pos q]
        exact ⟨rfl, Dps.cons rv r2⟩
      · simp only [if_neg q]
        refine ⟨?_, Dps.cons r1 h2⟩
        rw [List.map_cons, h1]
theorem sd_fld {value : Expr} {E : En} {fl : Str} {pos' : Pos} (c : Cls Γ.X.K C) (na : NoAttr Γ.X.K C fl) (h : ed Γ value δ μ fun d μ1 => ed Γ o δ μ1 fun x μ2 => ∃ p dx ns ds μa μb, x = .ref p ∧ μ2 = μa ++ (p, .ins C dx ns ds) :: μb ∧ ns.length < 1000 ∧ E.nx δ (μa ++ (p, .ins C dx (putD fl d ns ds).1 (putD fl d ns ds).2) :: μb))
    (hs : swapsWith value (some (.Attribute o fl pos')) pos.line Γ.X.env = pure false := by rfl) : sd Γ (.Assign [.Attribute o fl pos'] value pos) δ μ E := fun F σ H a =>
  ws_of (ps_fld pe_we pe_we hs) (we_mono (h F σ H a) fun v H1 ⟨F1, d, μ1, s1, a1, r1, q1⟩ => we_mono (q1 F1 σ H1 a1) fun u H2 ⟨F2, x, μ2, s2, a2, r2, p, dx, ns, ds, μa, μb, e1, e2, hl, q⟩ => by
    subst e1 e2
    rw [dpR r2]
    obtain ⟨gs, h1, h2, h3⟩ := a2.sx.cells (p, .ins C dx ns ds) mem_mid
    have h2 : gs.map (·.1) = ns := h2
    subst h2
    obtain ⟨g1, g2⟩ := putD_ok (f := fl) (r1.mono s2) h3
    exact ⟨p, C, dx, gs, rfl, h1, c, na, by rw [List.length_map] at hl; exact hl, F2, δ, _, s1.trans s2, a2.put (c' := .ins C dx _ _) ⟨_, upd_same, g1, g2⟩, q⟩)
end
end PD
/-! PD6: what the top has written, by names; packages of calls; the end of a law. -/
namespace PD
open PySem PySem.Spec PyProof.Rows L2
/-- what is known of the top -/
structure TX (fa : List He.Fa) (fn : List He.DefD) (ex : PySem.W.Frag → Bool) (K : PySem.W.Frag) (mg : Str → Option Value) : Prop where
  glo : ∀ x, He.Fa.glo x ∈ fa → mg x = some (.ref (He.ga K x))
  free : ∀ x, He.Fa.free x ∈ fa → mg x = none
  fact : ∀ f ∈ fa, f.ok K = true
  defs : ∀ d ∈ fn, ∃ fd, FunD K d.name d.qual d.params d.body d.scope (d.dvs K) (d.kws K) (He.fAd K d.at_) fd
  more : ex K = true
section
variable {fa : List He.Fa} {fn : List He.DefD} {ex : PySem.W.Frag → Bool} {K : PySem.W.Frag} {mg : Str → Option Value}
theorem TX.g (T : TX fa fn ex K mg) (i : Nat) {x : Str} (h : fa[i]? = some (.glo x) := by rfl) : mg x = some (.ref (He.ga K x)) := T.glo x (List.mem_of_getElem? h)
theorem TX.f (T : TX fa fn ex K mg) (i : Nat) {x : Str} (h : fa[i]? = some (.free x) := by rfl) : mg x = none := T.free x (List.mem_of_getElem? h)
theorem TX.a (T : TX fa fn ex K mg) (i : Nat) {f : He.Fa} (h : fa[i]? = some f := by rfl) : f.ok K = true := T.fact f (List.mem_of_getElem? h)
theorem TX.d (T : TX fa fn ex K mg) (i : Nat) {d : He.DefD} (h : fn[i]? = some d := by rfl) : ∃ fd, FunD K d.name d.qual d.params d.body d.scope (d.dvs K) (d.kws K) (He.fAd K d.at_) fd := T.defs d (List.mem_of_getElem? h)
theorem tx_of {ts : List He.Tab} {tf : List He.Defn} {w : World} {h h' : Heap} (X : K.In h) (G : h.Ns mainGlobals mg) (c : He.SaysX fa fn ts tf ex w h' K) : TX fa fn ex K mg where
  glo := fun x hx => He.glo_ok X G (c.t.d.facts hx)
  free := fun x hx => He.free_ok X G (c.t.d.facts hx)
  fact := fun f hf => c.t.d.facts hf
  defs := fun d hd => c.t.d.defs hd
  more := c.more
end
/-- a def that may be called: dds the defaults that fill up -/
structure CallX (b : Md) (P : Program) (w : World) (K : PySem.W.Frag) (mg : Str → Option Value) (base : Heap) (k : Nat) (f : Addr) (n : Nat) (dds : List D) (sp : SpD) : Prop where
  ex : ∃ (fd : FuncData) (ps : List Str) (dvs : List V) (dus : List Value), ps.length = n ∧ Binds K fd ps dus ∧ Vals dvs dus ∧ DfD K dds dvs ∧ FnD b P w K mg base k f fd ps sp
  kp : PySem.W.keepIn K (.ref f) = true
/-- a def that lets out only what has None for its context -/
structure CallD (P : Program) (w : World) (K : PySem.W.Frag) (mg : Str → Option Value) (base : Heap) (k : Nat) (f : Addr) (n : Nat) (dds : List D) (sp : SpD) : Prop where
  at_ : ∀ b, CallX b P w K mg base k f n dds sp
/-- a def that may let out any exception -/
structure CallF (P : Program) (w : World) (K : PySem.W.Frag) (mg : Str → Option Value) (base : Heap) (k : Nat) (f : Addr) (n : Nat) (dds : List D) (sp : SpD) : Prop where
  x : CallX false P w K mg base k f n dds sp
theorem CallF.at_ {P : Program} {w : World} {K : PySem.W.Frag} {mg : Str → Option Value} {base : Heap} {k : Nat} {f : Addr} {n : Nat} {dds : List D} {sp : SpD} (c : CallF P w K mg base k f n dds sp) (b : Md) (h : b = false := by rfl) : CallX b P w K mg base k f n dds sp := by
  subst h; exact c.x
section
variable {P : Program} {w : World} {K : PySem.W.Frag} {mg : Str → Option Value} {base : Heap} {k : Nat} {f : Addr} {sp : SpD} {x qual : Str} {params : Arguments} {body : List Stmt} {scope : Scope} {kws : List (Str × V)} {fd : FuncData} {ps : List Str}
theorem CallD.mk0 (F : FunD K x qual params body scope [] kws f fd)
    (h : ∀ (kV doc pm : Value) (an : Option Addr) (cdv ct : Value) (us : List Value), us.length = ps.length → bindArgs (PySem.W.fnOf x qual params body scope .none kV doc pm an cdv ct) ⟨us, []⟩ = pure (ps.zip us)) (G : ∀ {b : Md}, FnD b P w K mg base k f fd ps sp) : CallD P w K mg base k f ps.length [] sp :=
  ⟨fun b => ⟨⟨fd, ps, [], [], rfl, F.bindsN h, .nil, DfD.nil, G⟩, F.kp⟩⟩
theorem CallF.mk0 (F : FunD K x qual params body scope [] kws f fd)
    (h : ∀ (kV doc pm : Value) (an : Option Addr) (cdv ct : Value) (us : List Value), us.length = ps.length → bindArgs (PySem.W.fnOf x qual params body scope .none kV doc pm an cdv ct) ⟨us, []⟩ = pure (ps.zip us)) (G : FnD false P w K mg base k f fd ps sp) : CallF P w K mg base k f ps.length [] sp :=
  ⟨⟨⟨fd, ps, [], [], rfl, F.bindsN h, .nil, DfD.nil, G⟩, F.kp⟩⟩
end
section
variable {Γ : Ct} {δ : Dl} {μ : Mu} {Q : D → Mu → Prop} {pos : Pos} {k j n : Nat} {f C : Addr} {sp : SpD} {dds : List D} {x m : Str} {p apos : Pos} {e o : Expr} {es : List Expr}
theorem ed_callC (Cd : CallX Γ.nn Γ.X.prog Γ.X.w Γ.X.K Γ.X.mg Γ.X.base k f n dds sp) (hr : Room j Γ.X.A) (hkj : k ≤ j) (hm : Γ.X.mg x = some (.ref f)) (h : ea Γ (e :: es) δ μ fun ds μ1 => (ds ++ dds).length = n ∧ sp (ds ++ dds) μ1 Q fun cls ns xs μ' => Γ.W cls ns xs δ μ') (hg : Gl Γ.X x := by rfl)
    (hdb : (x == ("__debug__" : Str)) = false := by decide +kernel) (he : starEach (e :: es) Γ.X.env = (false, eval e Γ.X.env) :: starEach es Γ.X.env := by rfl) (hpl : (backTo pos (starEach es Γ.X.env)).any (·.1) = false := by rfl) :
    ed Γ (.Call (.Name x p) (e :: es) [] pos) δ μ Q := by
  obtain ⟨fd, ps, dvs, dus, hl, b, v, d, G⟩ := Cd.ex
  subst hl
  exact ed_call G (hr.mono hkj) hm Cd.kp b v d h hg hdb he hpl
theorem ed_methC {pl : Sem Bool} (c : Cls Γ.X.K C) (hm : Meth Γ.X.K C m f) (Cd : CallX Γ.nn Γ.X.prog Γ.X.w Γ.X.K Γ.X.mg Γ.X.base k f n dds sp) (hr : Room j Γ.X.A) (hkj : k ≤ j)
    (h : ed Γ o δ μ fun x μ1 => InsD C x μ1 m ∧ ea Γ (e :: es) δ μ1 fun ds μ2 => (x :: (ds ++ dds)).length = n ∧ sp (x :: (ds ++ dds)) μ2 Q fun cls ns xs μ' => Γ.W cls ns xs δ μ')
    (hst : starEach (e :: es) Γ.X.env = (false, eval e Γ.X.env) :: starEach es Γ.X.env := by rfl) (hpl : (backTo pos (starEach es Γ.X.env)).any (·.1) = false := by rfl)
    (ht : eval (.Call (.Attribute o m apos) (e :: es) [] pos) Γ.X.env = (do
      let ov ← eval o Γ.X.env
      standAt apos.atName
      let (f, first) ← holding [ov] (getMethod ov m pl)
      callWith pos f first (backTo pos (starEach (e :: es) Γ.X.env)) (backToKw pos (keywordEach [] Γ.X.env))) := by rfl) : ed Γ (.Call (.Attribute o m apos) (e :: es) [] pos) δ μ Q := by
  obtain ⟨fd, ps, dvs, dus, hl, b, v, d, G⟩ := Cd.ex
  subst hl
  exact ed_meth c hm G (hr.mono hkj) b v d h hst hpl ht
end
/-! ### the end of a law -/
/-- law's promise: a list of at most 63 ints of at most 1048576 bits each is handed in, True comes out -/
def spLaw : SpD := fun ds μ Q _ => ∃ ns : List Int, ds = [.rl (ns.map .int)] ∧ μ = [] ∧ ns.length ≤ 63 ∧ (∀ z ∈ ns, Builtin.Int.intBits z ≤ 1048576) ∧ ∀ μ', Q (.bl true) μ'
/-- from law's promise to its call by the claim's caller -/
theorem law_go {P : Program} {w : World} {K : PySem.W.Frag} {mg mb : Str → Option Value} {k : Nat} {fa a : Addr} {fd : FuncData} {x : Str} {sp : Sp} {s₁ : Shared} {vs : List Value} {ns : List Int}
    (KX : K.In s₁.heap) (hns : s₁.heap.Ns mainGlobals mg) (hb : s₁.heap.Ns builtinsNs mb) (hbb : ∀ x : Str, x ≠ "__name__" → mb x = bootBuiltins x) (hlim : s₁.heap.NoLimit) (hg : s₁.gens = #[]) (ha : s₁.heap.get? a = some { cls := .type "list", data := .seq vs.toArray })
    (hi : IntsAre vs ns) (hl : ns.length ≤ sizeLine) (hr : Room k callerA) (F : ∀ base : Heap, K.In base → base.Ns mainGlobals mg → FnOk P w K mg base false k fa fd [x] sp) (hbind : ∀ (s : Shared) (u : Value), BindsTo s fd ⟨[u], []⟩ [(x, u)])
    (hsp : ∀ H : Hp, SqL K H a (ns.map V.int) → sp [.ref a] H (fun v _ => v = .bl true) fun _ _ _ => False) :
    codeAny (model P w) callerA (.call (.ref fa) ⟨[.ref a], []⟩) (fun r s' => r = .ok (.ret (.bool true)) ∧ OldK s₁.heap s'.heap ∧ s'.os = s₁.os ∧ AllBare s'.gens) s₁ := by
  have rel := vals_ints hi
  let O : Obj := { cls := .type "list", data := .seq vs.toArray }
  have z1 : ((ns.map V.int).length : Nat) ≤ sizeLine := by rw [List.length_map]; exact hl
  -- the abstract heap: the script alone, unless it is one of the module's own things
  have go : ∀ H : Hp, (∀ c, H c = none ∨ (c = a ∧ K.lookup a = none ∧ H c = some (.frz O (.lst (ns.map V.int))))) → SqL K H a (ns.map V.int) → codeAny (model P w) callerA (.call (.ref fa) ⟨[.ref a], []⟩) (fun r s' => r = .ok (.ret (.bool true)) ∧ OldK s₁.heap s'.heap ∧ s'.os = s₁.os ∧ AllBare s'.gens) s₁ := fun H only seq => by
    have ok : HOk P w H s₁.heap := fun c u e => by
      rcases only c with q | ⟨rfl, _, q⟩
      · rw [q] at e; cases e
      · rw [q] at e; cases e
        exact ⟨ha, z1, vs, _, rel, ha⟩
    have hid : ∀ {c : Addr} {o : Obj}, s₁.heap.get? c = some o → (c = a → K.lookup a = none → False) → (hidT s₁.heap H).get? c = some o := fun {c o} e n => hidT_get e (by
      rcases only c with q | ⟨q1, q2, _⟩
      · exact q
      · exact (n q1 q2).elim)
    have noDict : ∀ {c : Addr} {m : Str → Option Value}, s₁.heap.Ns c m → (hidT s₁.heap H).Ns c m := fun {c m} ⟨o, es, ep, e, d, r⟩ => ⟨o, es, ep, hid e (fun q _ => by
      subst q
      rw [ha] at e
      cases e
      cases (show Data.seq vs.toArray _ = Data.dict es ep from d)), d, r⟩
    have kin : K.In (hidT s₁.heap H) := fun c o e => hid (KX c o e) fun q n => by
      subst q
      rw [n] at e; cases e
    obtain ⟨mc, l1, l2⟩ := hlim
    have e0 : Env0 P w K mg (hidT s₁.heap H) callerA [] s₁ H := ⟨rfl, ⟨kin, noDict hns, ⟨mb, noDict hb, hbb⟩, mc, noDict l1, l2⟩, fun c o e => of_hidT e, Nat.le_of_eq (hidT_size _ _), trivial, fun c hc => (List.not_mem_nil hc).elim, ok, .of_eq hg⟩
    refine codeAny_mono ((F _ kin (noDict hns)).run callerA [] s₁ H ⟨[.ref a], []⟩ [.ref a] [.ref a] _ _ hr e0 (hbind s₁ (.ref a)) (.cons rfl .nil) (hsp H seq)) fun r s' z => ?_
    match r, z with
    | .error e, z =>
      obtain ⟨_, _, _, _, _, _, _, _, _, _, _, _, z⟩ := z
      exact z.elim
    | .ok (.ret u), z =>
      obtain ⟨v, H', os, bare, un, ok', rv, q⟩ := z
      obtain rfl : v = V.bl true := q
      obtain rfl : u = Value.bool true := rv
      refine ⟨rfl, OldK.of_keep fun c o e => ?_, os, bare⟩
      rcases only c with q | ⟨_, _, q⟩
      · exact un.keep c o e q (fun n => (List.not_mem_nil (show c ∈ ([] : List Addr) from n)).elim) (fun n => nomatch n)
      · have e1 := (ok c _ q).1
        have e2 := (ok' c _ (un.frzs c O _ q)).1
        rw [e] at e1
        cases e1
        exact e2
  cases hk : K.lookup a with
  | some o =>
    have e := KX a o hk
    rw [ha] at e
    cases e
    exact go (fun _ => none) (fun _ => .inl rfl) (.inr ⟨O, vs.toArray, _, hk, rfl, rfl, rfl, by rw [List.size_toArray, hi.length]; exact hl, by simpa using rel⟩)
  | none =>
    refine go (fun c => if c = a then some (.frz O (.lst (ns.map V.int))) else none) (fun c => ?_) (.inl (.inr ⟨O, if_pos rfl⟩))
    by_cases q : c = a
    · exact .inr ⟨q, hk, if_pos q⟩
    · exact .inl (if_neg q)
theorem walk_pd {l : PySem.W.OpenLaw} {n k : Nat} {q : Program} {loose : List Str} {XP : (Str → Option Value) → Heap → Prop} {YP : World → Heap → Prop} {d : DefRec} {x : Str}
    (hn : l.most = some 63) (hdf : d.params.defaults = []) (hr : L2.Room k callerA)
    (F : ∀ (w : World) (mg : Str → Option Value) (fa : Addr) (h : Heap), YP w h → h.Ns mainGlobals mg → mg d.name = some (.ref fa) →
      ∃ (K : PySem.W.Frag) (fd : FuncData), K.In h ∧ (∀ (s : Shared) (u : Value), BindsTo s fd ⟨[u], []⟩ [(x, u)]) ∧
        ∀ base : Heap, K.In base → base.Ns mainGlobals mg → FnD false l.prog w K mg base k fa fd [x] spLaw) :
    PySem.W.WalkO q loose XP YP l.row.toRowW d [] (fun f vs => PySem.call f vs) := by
  refine Att.attach_callB hn hdf fun w s₀ s₁ mg mb fa o pm cd doc a vs ns G Y ho hd hcd hmg hobj hints hlen hbits hg => ?_
  obtain ⟨K, fd, KX, hb, hF⟩ := F w mg fa _ Y G.T.g hmg
  refine law_go (K := K) (k := k) (x := x) KX G.T.g G.T.b G.T.builtins G.T.nolimit hg hobj hints (Nat.le_trans hlen (by decide)) ⟨hr, rfl⟩ hF hb (fun H hS => ?_)
  refine ⟨H, [], [.rl (ns.map .int)], fun d _ => d = .bl true, fun _ _ _ _ => False, ⟨Same.refl H, fun c hc => (nomatch hc), List.nodup_nil, fun c hc => (nomatch hc)⟩, Dps.cons (by rw [Dp]; exact ⟨a, ns.map V.int, rfl, hS, Dps.of_ints⟩) Dps.nil, rfl, ⟨ns, rfl, rfl, hlen, hbits, fun _ => rfl⟩, fun v H' F' μ' d _ _ rd e => ?_, fun _ _ _ _ _ _ _ _ _ _ z => z⟩
  rw [e] at rd
  exact dpB rd
end PD
/-! PD7: == seen through owned lists; small facts about data. -/
namespace PD
open PySem PySem.Spec PyProof.Rows L2
/-- an owned list seen as its items -/
inductive Vw (μ : Mu) : D → D → Prop where
  | same (x : D) : Vw μ x x
  | own {p : Addr} {xs : List D} (h : (p, Cell.lst xs) ∈ μ) : Vw μ (.ref p) (.lst xs)
section
variable {Γ : Ct} {δ : Dl} {μ : Mu} {Q : D → Mu → Prop} {x y x' y' : D}
theorem Vw.dp {F H : Hp} {σ : L2.St} {v : V} (a : At Γ F δ μ σ H) (h : Vw μ x x') (hx : x'.ok = true) (r : Dp Γ.X.K F x v) : L2.Dp Γ.X.K H v x'.py := by
  cases h with
  | same => exact D.ok_dp a.sx.sub hx r
  | own hm =>
    rw [dpR r]
    obtain ⟨vs, h1, h2⟩ := a.sx.cells _ hm
    rw [D.ok] at hx
    rw [D.py]
    exact .lst (.inl (.inl h1)) (D.oks_dp a.sx.sub hx h2)
theorem opd_neV (hu : Γ.X.A.units + 64 < cLine) (h1 : Vw μ x x') (h2 : Vw μ y y') (hx : x'.ok = true) (hy : y'.ok = true) (dx : x'.py.depth ≤ 64) (dy : y'.py.depth ≤ 64) (q : Q (.bl (!eqD x' y')) μ) : opd Γ (compareOp .NotEq) x y δ μ Q := opd_of (op_neD hu) fun F σ H vx vy a r1 r2 =>
  ⟨x'.py, y'.py, h1.dp a hx r1, h2.dp a hy r2, by unfold SeqAt.shaped; rw [D.ok_lay hx, decide_eq_true dx]; rfl, by unfold SeqAt.shaped; rw [D.ok_lay hy, decide_eq_true dy]; rfl, PostE.here a dpb q⟩
end
theorem oks_ints : ∀ (l : List Int), D.oks (l.map .int) = true
  | [] => by rw [List.map_nil, D.oks]
  | z :: l => by rw [List.map_cons, D.oks, D.ok, oks_ints l]; rfl
theorem depthAll_ints : ∀ (l : List Int), PyData.depthAll (D.pys (l.map .int)) ≤ 1
  | [] => by rw [List.map_nil, D.pys, PyData.depthAll]; omega
  | z :: l => by
    have := depthAll_ints l
    rw [List.map_cons, D.pys, D.py, PyData.depthAll, PyData.depth]; omega
theorem depth_ints (l : List Int) : (D.lst (l.map .int)).py.depth ≤ 64 := by
  have := depthAll_ints l
  rw [D.py, PyData.depth]; omega
theorem ok_ints (l : List Int) : (D.lst (l.map .int)).ok = true := by rw [D.ok]; exact oks_ints l
theorem eqD_nil (xs : List D) : eqD (.lst xs) (.lst []) = xs.isEmpty := by
  unfold eqD
  cases xs with
  | nil => rfl
  | cons x xs =>
    show PyData.eqv (.list (D.pys (x :: xs))) (.list (D.pys [])) = false
    rw [D.pys, D.pys, PyData.eqv, PyData.eqvAll]
theorem nil_or_snoc {α : Type} (l : List α) : l = [] ∨ ∃ l0 z, l = l0 ++ [z] := by
  rcases List.eq_nil_or_concat l with h | ⟨l0, z, h⟩
  · exact .inl h
  · exact .inr ⟨l0, z, by rw [h, List.concat_eq_append]⟩
theorem exB {b : Bool} {P : Bool → Prop} (h : P b) : ∃ c, D.bl b = D.bl c ∧ P c := ⟨b, rfl, h⟩
theorem exI {b : Int} {P : Int → Prop} (h : P b) : ∃ c, D.int b = D.int c ∧ P c := ⟨b, rfl, h⟩
theorem small_lt {n : Nat} (h : n < 100000) : n < sizeLine := Nat.lt_of_lt_of_le h (by decide)
theorem small_le {n : Nat} (h : n ≤ 100000) : n ≤ sizeLine := Nat.le_trans h (by decide)
/-- a word between a statement and the rest -/
theorem sds_cut {Γ : Ct} {δ : Dl} {μ : Mu} {E : En} {st : Stmt} {rest : List Stmt} (M : Dl → Mu → Prop) (h : sd Γ st δ μ { E with nx := M }) (k : ∀ δ' μ', M δ' μ' → sds Γ rest δ' μ' E) : sds Γ (st :: rest) δ μ E :=
  sds_cons (sd_mono h ⟨k, fun _ _ z => z, fun _ _ z => z, fun _ _ z => z⟩)
theorem atI_last' {α : Type} (xs : List α) (v : α) : atI (xs ++ [v]) (-1) = some v := atI_last xs v
theorem map_concat_int (l : List Int) (z : Int) : (l ++ [z]).map D.int = l.map D.int ++ [.int z] := by rw [List.map_append]; rfl
end PD
namespace PD
open PySem PySem.Spec PyProof.Rows L2
/-- a def's own name: its place, its kind -/
structure Nm (N : List Str) (sc : Scope) (i : Nat) (x : Str) : Prop where
  at_ : N[i]? = some x
  loc : sc.names.lookup x = some .local ∨ sc.names.lookup x = some .cell
  dbg : (x == ("__debug__" : Str)) = false
  cls : (x == ("__classdict__" : Str)) = false
section
variable {Γ Γ0 : Ct} {N : List Str} {sc scope : Scope} {i : Nat} {x : Str} {d : D} {δ : Dl} {μ : Mu} {Q : D → Mu → Prop} {R : Dl → Mu → Prop} {pos : Pos} {E : En} {s : Shared} {H : Hp} {C : Addr} {cl : List (Str × Addr)} {fp : List Addr} {F0 : Hp} {μ0 : Mu} {H0 : Hp} {vs : List Nat}
theorem Nm.vis (n : Nm N sc i x) (e : Γ.X.env.scope = sc) : Vis Γ.X.env.scope x := by
  rw [e]; rcases n.loc with h | h
  · exact .inl h
  · exact .inr (.inl h)
theorem Nm.locl (n : Nm N sc i x) (e : Γ.X.env.scope = sc) : Loc Γ.X.env.scope x := by rw [e]; exact n.loc
theorem ed_nm (n : Nm N sc i x) (q : δ[i]? = some (some d)) (h : Q d μ) (e : Γ.X.env.scope = sc := by rfl) (e2 : Γ.X.N = N := by rfl) : ed Γ (.Name x pos) δ μ Q := ed_name (by rw [e2]; exact n.at_) q h (n.vis e) n.dbg n.cls
/-- in a comprehension's block -/
theorem ed_nmB (n : Nm N sc i x) (q : δ[i]? = some (some d)) (h : Q d μ) (v : ((relS scope sc).names.lookup x = some .local ∨ (relS scope sc).names.lookup x = some .cell) ∨ (relS scope sc).names.lookup x = some .free := by decide +kernel) (e : Γ0.X.env.scope = sc := by rfl) (e2 : Γ0.X.N = N := by rfl) :
    ed (Γ0.blk scope s H C cl fp F0 μ0 H0) (.Name x pos) δ μ Q := by
  refine ed_name (i := i) ?_ q h ?_ n.dbg n.cls
  · show Γ0.X.N[i]? = some x
    rw [e2]; exact n.at_
  · have e3 : (Γ0.blk scope s H C cl fp F0 μ0 H0).X.env.scope = relS scope sc := by rw [← e]; rfl
    rw [e3]
    rcases v with (v | v) | v
    · exact .inl v
    · exact .inr (.inl v)
    · exact .inr (.inr v)
theorem gd_nm (n : Nm N sc i x) (hN : N.Nodup) (h : R (δ.set i (some d)) μ) (hf : Γ.X.fn x = true := by rfl) (e : Γ.X.env.scope = sc := by rfl) (e2 : Γ.X.N = N := by rfl) : gd Γ (.Name x pos) d δ μ R := gd_name (by rw [e2]; exact hN) (by rw [e2]; exact n.at_) h (n.locl e) (.inl hf)
theorem sd_nm {e' : Expr} {pos' : Pos} (n : Nm N sc i x) (hN : N.Nodup) (h : ed Γ e' δ μ fun d μ' => E.nx (δ.set i (some d)) μ') (hs : swapsWith e' (some (.Name x pos')) pos.line Γ.X.env = pure false := by rfl) (hf : Γ.X.fn x = true := by rfl) (e : Γ.X.env.scope = sc := by rfl) (e2 : Γ.X.N = N := by rfl) :
    sd Γ (.Assign [.Name x pos'] e' pos) δ μ E := sd_set (by rw [e2]; exact hN) (by rw [e2]; exact n.at_) h hs (n.locl e) (.inl hf)
theorem gl_of (h : sc.names.lookup x = some .globalImplicit) (e : Γ.X.env.scope = sc := by rfl) : Gl Γ.X x := by
  show Γ.X.env.scope.names.lookup x = _
  rw [e]; exact h
theorem glB_of (h : (relS scope sc).names.lookup x = some .globalImplicit := by decide +kernel) (e : Γ0.X.env.scope = sc := by rfl) : Gl (Γ0.blk scope s H C cl fp F0 μ0 H0).X x := by
  have e3 : (Γ0.blk scope s H C cl fp F0 μ0 H0).X.env.scope = relS scope sc := by rw [← e]; rfl
  show (Γ0.blk scope s H C cl fp F0 μ0 H0).X.env.scope.names.lookup x = _
  rw [e3]; exact h
end
/-- a name that a comprehension's block stores -/
structure NmB (N : List Str) (i : Nat) (x : Str) : Prop where
  at_ : N[i]? = some x
  dbg : (x == ("__debug__" : Str)) = false
  cls : (x == ("__classdict__" : Str)) = false
section
variable {Γ Γ0 : Ct} {N : List Str} {sc scope : Scope} {i : Nat} {x : Str} {d : D} {δ : Dl} {μ : Mu} {Q : D → Mu → Prop} {R : Dl → Mu → Prop} {pos : Pos} {s : Shared} {H : Hp} {C : Addr} {cl : List (Str × Addr)} {fp : List Addr} {F0 : Hp} {μ0 : Mu} {H0 : Hp} {vs : List Nat}
theorem ed_nmC (n : NmB N i x) (q : δ[i]? = some (some d)) (h : Q d μ) (v : ((relS scope sc).names.lookup x = some .local ∨ (relS scope sc).names.lookup x = some .cell) ∨ (relS scope sc).names.lookup x = some .free := by decide +kernel) (e : Γ0.X.env.scope = sc := by rfl) (e2 : Γ0.X.N = N := by rfl) :
    ed (Γ0.blk scope s H C cl fp F0 μ0 H0) (.Name x pos) δ μ Q := by
  refine ed_name (i := i) ?_ q h ?_ n.dbg n.cls
  · show Γ0.X.N[i]? = some x
    rw [e2]; exact n.at_
  · have e3 : (Γ0.blk scope s H C cl fp F0 μ0 H0).X.env.scope = relS scope sc := by rw [← e]; rfl
    rw [e3]
    rcases v with (v | v) | v
    · exact .inl v
    · exact .inr (.inl v)
    · exact .inr (.inr v)
theorem gv_nmC (n : NmB N i x) (hN : N.Nodup) (hv : i ∈ vs) (h : R (δ.set i (some d)) μ) (v : (relS scope sc).names.lookup x = some .local ∨ ((relS scope sc).names.lookup x = some .cell ∧ scope.names.lookup x = some .cell) := by decide +kernel) (e : Γ0.X.env.scope = sc := by rfl) (e2 : Γ0.X.N = N := by rfl) :
    gv (Γ0.blk scope s H C cl fp F0 μ0 H0) (.Name x pos) d vs δ μ R := by
  have e3 : (Γ0.blk scope s H C cl fp F0 μ0 H0).X.env.scope = relS scope sc := by rw [← e]; rfl
  refine gv_name (i := i) (by show Γ0.X.N.Nodup; rw [e2]; exact hN) (by show Γ0.X.N[i]? = some x; rw [e2]; exact n.at_) hv h ?_ ?_
  · rw [e3]; rcases v with v | v
    · exact .inl v
    · exact .inr v.1
  · rw [e3]; rcases v with v | v
    · exact .inr v
    · refine .inl ?_
      show (scope.names.lookup x == some .cell) = true
      rw [v.2]; rfl
end
end PD
namespace PD
open PySem
theorem bb_len : bootBuiltins "len" = some (.builtin "len") := by decide +kernel
theorem bb_abs : bootBuiltins "abs" = some (.builtin "abs") := by decide +kernel
theorem bb_isinstance : bootBuiltins "isinstance" = some (.builtin "isinstance") := by decide +kernel
theorem bb_all : bootBuiltins "all" = some (.builtin "all") := by decide +kernel
theorem bb_int : bootBuiltins "int" = some (.type "int") := by decide +kernel
theorem bb_str : bootBuiltins "str" = some (.type "str") := by decide +kernel
theorem bb_list : bootBuiltins "list" = some (.type "list") := by decide +kernel
theorem bb_tuple : bootBuiltins "tuple" = some (.type "tuple") := by decide +kernel
theorem bb_bool : bootBuiltins "bool" = some (.type "bool") := by decide +kernel
theorem bb_range : bootBuiltins "range" = some (.type "range") := by decide +kernel
theorem bb_enumerate : bootBuiltins "enumerate" = some (.type "enumerate") := by decide +kernel
end PD
/-! PD8: xs[::-1]; parallel stores. -/
namespace PD
open PySem PySem.Spec PyProof.Rows L2
section
variable {Γ : Ct} {δ : Dl} {μ : Mu} {Q : D → Mu → Prop} {e : Expr} {pos : Pos}
/-- e[::-1], owned -/
theorem ed_revO {k : Nat} {p1 p2 p3 : Pos} (h : ed Γ e δ μ fun x μ' => ∃ xs, x = .lst xs ∧ ∀ p, Q (.ref p) ((p, .lst xs.reverse) :: μ')) : ed Γ (.Subscript e (.Slice none none (some (.UnaryOp .USub (.Constant (.int 1) k p1) p2)) p3) pos) δ μ Q := fun F σ H a =>
  we_of (pe_revL pe_we) (we_mono (h F σ H a) fun v H1 ⟨F1, x, μ1, s1, a1, r1, xs, e1, q⟩ => by
    subst e1
    obtain ⟨p0, vs, rfl, h1, h2⟩ := dpL r1
    exact ⟨p0, vs, rfl, .inl (.inl (a1.sx.sub _ _ h1)), fun p hp => PostE.up s1 (PostE.own (c := .lst xs.reverse) a1 hp ⟨_, upd_same, h2.reverse⟩ (q p))⟩)
/-- e[::-1], known -/
theorem ed_rev {k : Nat} {p1 p2 p3 : Pos} (h : ed Γ e δ μ fun x μ' => ∃ xs, x = .lst xs ∧ Q (.lst xs.reverse) μ') : ed Γ (.Subscript e (.Slice none none (some (.UnaryOp .USub (.Constant (.int 1) k p1) p2)) p3) pos) δ μ Q := fun F σ H a =>
  we_of (pe_revL pe_we) (we_mono (h F σ H a) fun v H1 ⟨F1, x, μ1, s1, a1, r1, xs, e1, q⟩ => by
    subst e1
    obtain ⟨p0, vs, rfl, h1, h2⟩ := dpL r1
    exact ⟨p0, vs, rfl, .inl (.inl (a1.sx.sub _ _ h1)), fun p hp => PostE.up s1 (PostE.new a1 hp (dpl upd_same (h2.reverse.mono (same_upd (a1.sx.sub.free hp)))) q)⟩)
end
/-! ### slices of anything -/
def rSlC (K : PySem.W.Frag) : V → Option Int → Option Int → Hp → VK → Prop := fun x lo hi H Q => rSlL K x lo hi H Q ∨ (L2.rSlA K x lo hi H Q ∨ rSlS x lo hi H Q)
theorem sl_c {X : Cx} : SlR X (rSlC X.K) := sl_list.or (sl_tupA.or sl_str)
theorem rSlA_mono (K : PySem.W.Frag) : ∀ x l u H Q Q', (∀ v H', Q v H' → Q' v H') → L2.rSlA K x l u H Q → L2.rSlA K x l u H Q' := fun x l u H Q Q' k h => by
  obtain ⟨a, xs, e, h1, h2, h3⟩ := h
  exact ⟨a, xs, e, h1, fun z => k _ _ (h2 z), fun z p hp => k _ _ (h3 z p hp)⟩
theorem rSlC_mono (K : PySem.W.Frag) : ∀ x l u H Q Q', (∀ v H', Q v H' → Q' v H') → rSlC K x l u H Q → rSlC K x l u H Q' := fun x l u H Q Q' k h => by
  rcases h with h | h | h
  · exact .inl (rSlL_mono K _ _ _ _ _ _ k h)
  · exact .inr (.inl (rSlA_mono K _ _ _ _ _ _ k h))
  · exact .inr (.inr (rSlS_mono _ _ _ _ _ _ k h))
def cutD (xs : List D) (lo hi : Option Int) : List D := (xs.drop (HT.sIx xs.length 0 lo)).take (HT.sIx xs.length xs.length hi - HT.sIx xs.length 0 lo)
section
variable {Γ : Ct} {δ : Dl} {μ : Mu} {Q : D → Mu → Prop} {e : Expr} {pos : Pos}
def slc (Γ : Ct) (x : D) (lo hi : Option Int) (δ : Dl) (μ : Mu) (Q : D → Mu → Prop) : Prop := sld Γ (rSlC Γ.X.K) x lo hi δ μ Q
theorem ed_slc {lo hi : Option Expr} {p2 : Pos} (h : ed Γ e δ μ fun x μ1 => eo Γ lo δ μ1 fun l μ2 => eo Γ hi δ μ2 fun u μ3 => slc Γ x l u δ μ3 Q) : ed Γ (.Subscript e (.Slice lo hi none p2) pos) δ μ Q := ed_slice sl_c (rSlC_mono _) h
theorem slc_lst {xs : List D} {lo hi : Option Int} (q : Q (.lst (cutD xs lo hi)) μ) : slc Γ (.lst xs) lo hi δ μ Q := fun F σ H vx a r => .inl (sld_lst q F σ H vx a r)
theorem slc_rl {xs : List D} {lo hi : Option Int} (q : Q (.lst (cutD xs lo hi)) μ) : slc Γ (.rl xs) lo hi δ μ Q := fun F σ H vx a r => .inl (sld_rl q F σ H vx a r)
theorem slc_str {z : Str} {lo hi : Option Int} (hz : z.length ≤ sizeLine) (q : Q (.str (cutS z lo hi)) μ) : slc Γ (.str z) lo hi δ μ Q := fun F σ H vx a r => .inr (.inr (sld_str hz q F σ H vx a r))
theorem slc_tup {xs : List D} {lo hi : Option Int} (q : Q (.tup (cutD xs lo hi)) μ) : slc Γ (.tup xs) lo hi δ μ Q := fun F σ H vx a r1 => .inr (.inl (by
  obtain ⟨p1, vs, rfl, h1, h2⟩ := dpT r1
  refine ⟨p1, vs, rfl, Same.sqT a.sx.sub h1, fun z => ?_, fun z p hp => ?_⟩
  · refine PostE.here a (d := .tup (cutD xs lo hi)) (dpt h1 ?_) q
    rw [← h2.length] at z
    unfold cutD
    rw [z.1, z.2, List.drop_zero, Nat.sub_zero, List.take_length]
    exact h2
  · have sF := same_upd (o := HO.tup (cutV vs lo hi)) (a.sx.sub.free hp)
    refine PostE.new a hp (dpt (.inl (.inl upd_same)) (Dps.mono sF ?_)) q
    unfold cutV cutD
    rw [← h2.length]
    exact (h2.drop _).take _))
/-- tuples put together -/
theorem opd_catT {xs ys : List D} (hl : xs.length + ys.length ≤ sizeLine) (q : Q (.tup (xs ++ ys)) μ) : opd Γ (binaryOp .Add) (.tup xs) (.tup ys) δ μ Q := opd_of op_catA fun F σ H vx vy a r1 r2 => by
  obtain ⟨p1, vs, rfl, h1, h2⟩ := dpT r1
  obtain ⟨p2, ws, rfl, h3, h4⟩ := dpT r2
  refine ⟨p1, p2, vs, ws, rfl, rfl, Same.sqT a.sx.sub h1, Same.sqT a.sx.sub h3, by rw [← h2.length, ← h4.length]; exact hl, fun z => ?_, fun z1 z2 => ?_, fun z1 z2 p hp => ?_⟩
  · subst z
    have e : xs = [] := List.length_eq_zero_iff.mp (by rw [h2.length]; rfl)
    subst e
    exact PostE.here a (dpt h3 h4) q
  · subst z2
    have e : ys = [] := List.length_eq_zero_iff.mp (by rw [h4.length]; rfl)
    subst e
    rw [List.append_nil] at q
    exact PostE.here a (dpt h1 h2) q
  · have sF := same_upd (o := HO.tup (vs ++ ws)) (a.sx.sub.free hp)
    exact PostE.new a hp (dpt (.inl (.inl upd_same)) ((h2.append h4).mono sF)) q
end
/-! ### x, y = e1, e2 -/
section
variable {Γ : Ct} {δ : Dl} {μ : Mu} {E : En} {pos : Pos} {N : List Str} {sc : Scope} {i j l : Nat} {x y z : Str} {a b c : Expr} {px py pz pt pt2 : Pos}
theorem sd_par3 {kt k2} (hc : Γ.X.calm = true) (hN : N.Nodup) (n : Nm N sc i x) (n' : Nm N sc j y) (n'' : Nm N sc l z) (hx : sc.names.lookup x = some .local) (hy : sc.names.lookup y = some .local) (hz : sc.names.lookup z = some .local) (hij : i ≠ j) (hil : i ≠ l) (hjl : j ≠ l)
    (h : ea Γ [a, b, c] δ μ fun ds μ' => ∃ d d' d'', ds = [d, d', d''] ∧ E.nx (((δ.set i (some d)).set j (some d')).set l (some d'')) μ') (e : Γ.X.env.scope = sc := by rfl) (e2 : Γ.X.N = N := by rfl)
    (hw : swappedStores [.Tuple [.Name x px, .Name y py, .Name z pz] kt pt] (.Tuple [a, b, c] k2 pt2) Γ.X.env = pure (some [x, y, z]) := by rfl)
    (hs : swapsWithSole [.Tuple [.Name x px, .Name y py, .Name z pz] kt pt] (.Tuple [a, b, c] k2 pt2) pos.line Γ.X.env = pure false := by rfl) : sd Γ (.Assign [.Tuple [.Name x px, .Name y py, .Name z pz] kt pt] (.Tuple [a, b, c] k2 pt2) pos) δ μ E := fun F σ H at_ =>
  ws_of (ps_par3 hc (by rw [e2]; exact hN) (by rw [e2]; exact n.at_) (by rw [e2]; exact n'.at_) (by rw [e2]; exact n''.at_) hij hil hjl (by rw [e]; exact hx) (by rw [e]; exact hy) (by rw [e]; exact hz) pa_wa hw hs) (wa_mono (h F σ H at_) fun vs H' ⟨F', ds, μ', s, a', r, d, d', d'', e1, q⟩ => by
    subst e1
    obtain ⟨v, ws', rfl, r1, r2⟩ := r.uncons
    obtain ⟨v2, v3, rfl, r3, r4⟩ := r2.two
    exact ⟨v, v2, v3, rfl, F', _, μ', s, ((a'.fr_set i r1).fr_set j r3).fr_set l r4, q⟩)
end
end PD
namespace PD
open PySem PySem.Spec PyProof.Rows L2
section
variable {Γ : Ct} {elt tg iter : Expr} {ifs : List Expr} {scope : Scope} {vs : List Nat} {δ : Dl} {μ : Mu} {Q : List D → Mu → Prop}
theorem take_fm {ds : List D} {i : Nat} {d : D} (f : D → Bool) (g : D → D) (h : ds[i]? = some d) : ((ds.take (i + 1)).filter f).map g = ((ds.take i).filter f).map g ++ (if f d = true then [g d] else []) := by
  rw [List.take_add_one, h]
  show (((ds.take i) ++ [d]).filter f).map g = _
  rw [List.filter_append, List.map_append]
  congr 1
  by_cases q : f d = true
  · rw [if_pos q, List.filter_cons, if_pos q]; rfl
  · rw [if_neg q, List.filter_cons, if_neg q]; rfl
/-- a comprehension that makes of each item g of it, where f holds; the cells stay -/
theorem lcd_fm (f : D → Bool) (g : D → D) (h : eid Γ tg iter δ μ fun ds S μ1 => ds.length ≤ 1000000 ∧ S μ1 ∧
      (∀ d ∈ ds, allB Γ scope fun Γb => gv Γb tg d vs (wipeD δ vs) μ1 fun δ2 μ2 => allB Γ scope fun Γc => eif Γc ifs δ2 μ2 fun b μ3 => b = f d ∧ μ3 = μ1 ∧ (f d = true → allB Γ scope fun Γd => ed Γd elt δ2 μ1 fun r μ4 => r = g d ∧ μ4 = μ1)) ∧ Q ((ds.filter f).map g) μ1) :
    lcd Γ elt tg iter ifs scope vs δ μ Q := fun F σ H a => wi_mono (h F σ H a) fun J H1 ⟨F1, ds, S, μ1, s1, a1, ok, hz, hS, hb, hq⟩ => by
  refine ⟨F1, ds, S, μ1, s1, a1, ok, hz, fun i acc μ' => μ' = μ1 ∧ acc = ((ds.take i).filter f).map g, ⟨rfl, rfl⟩, ?_, ?_, ?_⟩
  · rintro i acc μ' hi ⟨rfl, rfl⟩
    refine ⟨hS, ?_⟩
    rw [List.length_map]
    have h1 := List.length_filter_le f (ds.take i)
    have h2 := List.length_take_le i ds
    omega
  · rintro i d acc μ' hd ⟨rfl, rfl⟩
    intro s H C cl fp F0 μ0 H0 F2 σ2 H2 v a2 r2
    refine wg_mono (hb d (List.mem_of_getElem? hd) s H C cl fp F0 μ0 H0 F2 σ2 H2 v a2 r2) fun σ3 H3 ⟨w3, F3, δ3, μ3, s3, a3, q3⟩ => ⟨w3, F3, δ3, μ3, s3, a3, ?_⟩
    intro s' H' C' cl' fp' F0' μ0' H0'
    have key : ∀ {b : Bool} {μ4 : Mu}, (b = f d ∧ μ4 = μ' ∧ (f d = true → allB Γ scope fun Γd => ed Γd elt δ3 μ' fun r μ5 => r = g d ∧ μ5 = μ')) →
        if b = true then allB Γ scope fun Γd => ed Γd elt δ3 μ4 fun r μ5 => μ5 = μ' ∧ ((ds.take i).filter f).map g ++ [r] = ((ds.take (i + 1)).filter f).map g else μ4 = μ' ∧ ((ds.take i).filter f).map g = ((ds.take (i + 1)).filter f).map g := by
      rintro b μ4 ⟨rfl, rfl, hk⟩
      rw [take_fm f g hd]
      by_cases q : f d = true
      · rw [if_pos q, if_pos q]
        intro s6 H6 C6 cl6 fp6 F6 μ6 H06
        exact ed_mono (hk q s6 H6 C6 cl6 fp6 F6 μ6 H06) fun r μ5 ⟨e1, e2⟩ => ⟨e2, by rw [e1]⟩
      · rw [if_neg q, if_neg q]
        exact ⟨rfl, (List.append_nil _).symm⟩
    have z := q3 s' H' C' cl' fp' F0' μ0' H0'
    match ifs, z with
    | [], z => exact key z
    | [c], z => exact et_mono z fun b μ4 hk => key hk
  · rintro acc μ' ⟨rfl, rfl⟩
    rw [List.take_length]; exact hq
end
end PD
namespace PD
open PySem
section
variable {Γ : Ct} {δ : Dl} {μ : Mu} {Q : Option Int → Mu → Prop} {e : Expr}
theorem eo_none (q : Q none μ) : eo Γ none δ μ Q := q
theorem eo_some (h : ed Γ e δ μ fun d μ' => ∃ i, d = .int i ∧ Q (some i) μ') : eo Γ (some e) δ μ Q := h
end
end PD
namespace PD
open PySem PySem.Spec PyProof.Rows L2
/-! more rules -/
section
variable {Γ : Ct} {e c : Expr} {δ : Dl} {μ : Mu} {Q : Bool → Mu → Prop}
theorem eif_nil (q : Q true μ) : eif Γ [] δ μ Q := q
theorem eif_one (h : et Γ c δ μ Q) : eif Γ [c] δ μ Q := h
end
/-! ### lists of numbers -/
def intOf : D → Int | .int z => z | _ => 0
theorem cut_ints (xs : List Int) (lo hi : Option Int) : ∃ ys : List Int, PD.cutD (xs.map .int) lo hi = ys.map .int ∧ ys.length ≤ xs.length ∧ ∀ y ∈ ys, y ∈ xs := by
  refine ⟨(xs.drop (HT.sIx xs.length 0 lo)).take (HT.sIx xs.length xs.length hi - HT.sIx xs.length 0 lo), ?_, ?_, fun y hy => List.mem_of_mem_drop (List.mem_of_mem_take hy)⟩
  · unfold PD.cutD; rw [List.length_map, ← List.map_drop, ← List.map_take]
  · rw [List.length_take, List.length_drop]; omega
theorem fm_ints (f : D → Bool) (g : D → D) (g' : Int → Int) (hg : ∀ z, g (.int z) = .int (g' z)) (xs : List Int) : (((xs.map D.int).filter f).map g) = ((xs.filter (fun z => f (.int z))).map g').map .int := by
  induction xs with
  | nil => rfl
  | cons x xs ih =>
    rw [List.map_cons, List.filter_cons, List.filter_cons]
    cases h : f (.int x)
    · exact ih
    · show g (.int x) :: _ = D.int (g' x) :: _
      rw [hg, ih]
end PD
/-! PD10: instances that are made; isinstance; membership; constants. -/
namespace PD
open PySem PySem.Spec PyProof.Rows L2
/-! ### an instance that is made -/
section
variable {X : Cx} {b' : Md} {k : Nat} {C f : Addr} {fd : FuncData} {ps : List Str} {sp : Sp} {dvs : List V} {dus : List Value} {E : XK} {x : Str} {p pos : Pos} {e : Expr} {es : List Expr}
theorem run_makeS {pins : List (Addr × Obj)} {σ : L2.St} {H : Hp} {s : Shared} {Q : VK} {us : List Value} {vs : List V} (M : Mk X.K C f) (G : FnOk X.prog X.w X.K X.mg X.base b' k f fd ps sp) (hr : Room (k + 1) X.A) (hb : Binds X.K fd ps dus) (hd : Vals dvs dus) (hx : PassesAt (CXB b' X.prog X.w) X σ E) (I : Inv X pins σ H s) (r : Vals vs us)
    (h : ∀ a dx, H a = none → H dx = none → dx ≠ a → sp (.ref a :: (vs ++ dvs)) (upd (upd H dx (.own a)) a (.ins C dx [])) (fun v H2 => v = .non ∧ Q (.ref a) H2) E) : wpAny (model X.prog X.w) X.A (call (.ref C) us) (EP X pins σ Q) X.xe s := by
  let n := s.heap.objs.size
  have J := Inv.made (C := C) I
  have hq := h (n + 1) n (I.hok.fresh (Nat.le_succ _)) (I.hok.fresh (Nat.le_refl _)) (Nat.ne_of_lt (Nat.lt_succ_self n))
  have rr : Vals (V.ref (n + 1) :: (vs ++ dvs)) (Value.ref (n + 1) :: (us ++ dus)) := .cons rfl (r.append hd)
  have hn : (Value.ref (n + 1) :: us ++ dus).length = ps.length := (rr.length.symm.trans (G.len _ _ _ _ hq) :)
  have go := G.run _ X.stack _ _ ⟨Value.ref (n + 1) :: us, []⟩ _ _ _ E (hr.make C us []) (J.env0.make C us []) (hb _ (Value.ref (n + 1) :: us) J.kIn hn) rr hq
  refine wpAny_call (make_map (f := f) I.kIn M.makes M.init (beq_iff_eq.mp M.fn) (codeAny_mono go fun res s' z => ?_))
  match res, z with
  | .error e, z => exact hx pins _ _ e s' J z
  | .ok (.ret u), z =>
    obtain ⟨v, H', J', rv, rfl, q⟩ := J.after z
    exact ⟨rv, V.ref (n + 1), H', J', rfl, q⟩
theorem pe_makeS {Eσ : L2.St → XK} {t : TA} (M : Mk X.K C f) (G : FnOk X.prog X.w X.K X.mg X.base b' k f fd ps sp) (hr : Room (k + 1) X.A) (hg : Gl X x) (hm : X.mg x = some (.ref C)) (hb : Binds X.K fd ps dus) (hd : Vals dvs dus) (hx : ∀ σ, PassesAt (CXB b' X.prog X.w) X σ (Eσ σ))
    (ha : PA X (e :: es) t) (hdb : (x == ("__debug__" : Str)) = false) (he : starEach (e :: es) X.env = (false, eval e X.env) :: starEach es X.env) (hpl : (backTo pos (starEach es X.env)).any (·.1) = false) :
    PE X (.Call (.Name x p) (e :: es) [] pos) (fun σ H Q => t σ H fun vs H1 => ∀ a dx, H1 a = none → H1 dx = none → dx ≠ a → sp (.ref a :: (vs ++ dvs)) (upd (upd H1 dx (.own a)) a (.ins C dx [])) (fun v H2 => v = .non ∧ Q (.ref a) H2) (Eσ σ)) where
  run := fun pins s σ H Q I h => wpAny_Call_Name_kw (ld_glob I hg hm (PySem.W.callWith_K (h₀ := X.base) I.ok.mod.kin M.kp (thn (ha.run pos pins s σ H _ I h) fun us s1 ⟨vs, H1, I1, r, q⟩ => ⟨I1.kIn, run_makeS M G hr hb hd (hx σ) I1 r q⟩) he hpl) hdb)
end
/-- the cells with an instance, which is then given up to the data -/
def Frz (Q : D → Mu → Prop) (p C dx : Addr) : D → Mu → Prop := fun d μ' => d = .non ∧ ∃ ns vs μa μb, μ' = μa ++ (p, Cell.ins C dx ns vs) :: μb ∧ Q (.obj C ns vs) (μa ++ μb)
/-- a class whose instances are data: sp what is asked of the arguments (with the defaults) -/
structure MakeD (P : Program) (w : World) (K : PySem.W.Frag) (mg : Str → Option Value) (base : Heap) (k : Nat) (C : Addr) (n : Nat) (dds : List D) (sp : SpD) : Prop where
  ex : ∃ f spI, Mk K C f ∧ CallD P w K mg base k f (n + 1) dds spI ∧ ∀ ds μ Q E, sp ds μ Q E → ∀ p dx, spI (.ref p :: ds) ((p, .ins C dx [] []) :: μ) (Frz Q p C dx) E
section
variable {Γ : Ct} {δ : Dl} {μ : Mu} {Q : D → Mu → Prop} {pos : Pos} {k j n : Nat} {f C : Addr} {sp : SpD} {dds : List D} {x m : Str} {p apos : Pos} {e o : Expr} {es : List Expr}
theorem PostE.frz {F H : Hp} {σ : L2.St} {q dx : Addr} {v : V} (hv : v = .ref q) (h : ∃ F' μ', Same F F' ∧ At Γ F' δ μ' σ H ∧ ∃ ns vs μa μb, μ' = μa ++ (q, Cell.ins C dx ns vs) :: μb ∧ Q (.obj C ns vs) (μa ++ μb)) : PostE Γ F δ σ Q v H := by
  obtain ⟨F', μ', s', a, ns, vs, μa, μb, rfl, q1⟩ := h
  subst hv
  obtain ⟨gs, h1, h2, h3⟩ := a.sx.cells (q, .ins C dx ns vs) mem_mid
  have sF : Same F' (upd F' q (.ins C dx gs)) := same_upd (a.sx.off (q, .ins C dx ns vs) mem_mid)
  exact ⟨_, .obj C ns vs, _, s'.trans sF, a.freeze h1, by rw [Dp]; exact ⟨q, dx, gs, rfl, upd_same, h2, h3.mono sF⟩, q1⟩
theorem ed_makeC (Md : MakeD Γ.X.prog Γ.X.w Γ.X.K Γ.X.mg Γ.X.base k C n dds sp) (hr : Room j Γ.X.A) (hkj : k + 1 ≤ j) (hm : Γ.X.mg x = some (.ref C)) (h : ea Γ (e :: es) δ μ fun ds μ1 => (ds ++ dds).length = n ∧ sp (ds ++ dds) μ1 Q fun cls ns xs μ' => Γ.W cls ns xs δ μ') (hg : Gl Γ.X x := by rfl)
    (hdb : (x == ("__debug__" : Str)) = false := by decide +kernel) (he : starEach (e :: es) Γ.X.env = (false, eval e Γ.X.env) :: starEach es Γ.X.env := by rfl) (hpl : (backTo pos (starEach es Γ.X.env)).any (·.1) = false := by rfl) :
    ed Γ (.Call (.Name x p) (e :: es) [] pos) δ μ Q := by
  obtain ⟨f, spI, M, Cd, hI⟩ := Md.ex
  obtain ⟨fd, ps, dvs, dus, hl, b, v, dd, G⟩ := (Cd.at_ Γ.nn).ex
  intro F σ H a
  refine we_of (pe_makeS (Eσ := fun σ cls dx H' => WofD Γ.X.K Γ.F0 Γ.μ0 Γ.H0 Γ.W cls dx σ H') M G (hr.mono hkj) hg hm b v (fun σ => passAt Γ.tk σ) pa_wa hdb he hpl) (wa_mono (h F σ H a) fun vs H1 ⟨F1, ds, μ1, s1, a1, r1, hn, q⟩ q' dx hq hdx hne => ?_)
  have a2 : At Γ F1 δ ((q', Cell.ins C dx [] []) :: μ1) σ (upd (upd H1 dx (.own q')) q' (.ins C dx [])) := (a1.ext (same_upd hdx)).own (by rw [upd_ne (Ne.symm hne)]; exact hq) ⟨[], upd_same, rfl, Dps.nil⟩
  have r2 : Dps Γ.X.K F1 (.ref q' :: (ds ++ dds)) (.ref q' :: (vs ++ dvs)) := Dps.cons dpr (r1.append (dd F1))
  refine ⟨F1, _, _, Frz Q q' C dx, _, a2.sx, r2, by rw [hl, List.length_cons, hn], hI _ _ _ _ q q' dx, fun v H' F' μ' d st sx rd z => ?_, fun cls dx' H' F' μ' ns xs st sx xo z => ⟨F', μ', δ, ns, xs, a2.st.trans st, sx, a2.fr.mono st.ext, xo, z⟩⟩
  obtain ⟨rfl, z⟩ := z
  exact ⟨by rw [Dp] at rd; exact rd, PostE.frz rfl ⟨F', μ', s1.trans st.ext, ⟨a2.st.trans st, sx, a2.fr.mono st.ext⟩, z⟩⟩
end
/-! ### constants of the top -/
theorem allK {K : PySem.W.Frag} {fs : List (PySem.W.Frag → Bool)} (h : (fs.all fun f => f K) = true) (i : Nat) {f : PySem.W.Frag → Bool} (e : fs[i]? = some f := by rfl) : f K = true := List.all_eq_true.mp h f (List.mem_of_getElem? e)
/-- a tuple at an address -/
def tupAB (K : PySem.W.Frag) (a : Addr) (vs : List He.Dv) : Bool := match K.lookup a with
  | some o => decide (o.cls = .type "tuple") && (match o.data with
    | .seq its _ => decide (its.size ≤ sizeLine) && He.relAll (vs.map (He.Dv.v K)) its.toList
    | _ => false)
  | none => false
theorem tupAB_ok {K : PySem.W.Frag} {a : Addr} {vs : List He.Dv} (h : tupAB K a vs = true) (H : Hp) : SqT K H a (vs.map (He.Dv.v K)) := by
  unfold tupAB at h
  split at h
  · next o e =>
    obtain ⟨h1, h2⟩ := Bool.and_eq_true_iff.mp h
    split at h2
    · next its n e2 =>
      obtain ⟨h3, h4⟩ := Bool.and_eq_true_iff.mp h2
      exact .inr ⟨o, its, n, e, of_decide_eq_true h1, e2, of_decide_eq_true h3, He.relAll_ok h4⟩
    · cases h2
  · cases h
def strDv (ys : List Str) : List He.Dv := ys.map .str
theorem dps_strs {K : PySem.W.Frag} {F : Hp} : ∀ ys : List Str, Dps K F (ys.map .str) ((strDv ys).map (He.Dv.v K))
  | [] => Dps.nil
  | y :: ys => Dps.cons dps (dps_strs ys)
theorem dp_tupS {K : PySem.W.Frag} {a : Addr} {ys : List Str} (h : tupAB K a (strDv ys) = true) (F : Hp) : Dp K F (.tup (ys.map .str)) (.ref a) := dpt (tupAB_ok h F) (dps_strs ys)
section
variable {Γ : Ct} {δ : Dl} {μ : Mu} {Q : D → Mu → Prop} {pos : Pos} {x : Str} {a : Addr}
/-- a name of the top that is an object: a class, a def, a constant -/
theorem ed_gref (hm : Γ.X.mg x = some (.ref a)) (q : Q (.ref a) μ) (hg : Gl Γ.X x := by rfl) (hd : (x == ("__debug__" : Str)) = false := by decide +kernel) : ed Γ (.Name x pos) δ μ Q := ed_glob hm (v := .ref a) rfl (fun _ => dpr) q hg hd
theorem ed_gtup {ys : List Str} (hm : Γ.X.mg x = some (.ref a)) (h : tupAB Γ.X.K a (strDv ys) = true) (q : Q (.tup (ys.map .str)) μ) (hg : Gl Γ.X x := by rfl) (hd : (x == ("__debug__" : Str)) = false := by decide +kernel) : ed Γ (.Name x pos) δ μ Q := ed_glob hm (v := .ref a) rfl (dp_tupS h) q hg hd
/-- a built-in type as a value -/
theorem ed_ty {n : String} (hm : Γ.X.mg x = none) (hv : bootBuiltins x = some (.type n)) (q : Q (.ty n) μ) (hg : Gl Γ.X x := by rfl) (hn : x ≠ "__name__" := by decide +kernel) (hd : (x == ("__debug__" : Str)) = false := by decide +kernel) : ed Γ (.Name x pos) δ μ Q := fun F σ H h =>
  we_of (pe_bltn (v := .ty n) hg hm hv rfl hn hd) (PostE.here (v := .ty n) h (by rw [Dp]) q)
end
/-! ### isinstance -/
/-- an own class whose instances tell their class -/
structure ClsT (K : PySem.W.Frag) (C : Addr) : Prop where
  c : Cls K C
  ha : PySem.W.findIn K (.ref C) "__class__" = some (some (.builtin "object.__class__"))
  hn : PySem.W.specialIn K (.builtin "object.__class__") "__get__" = some (some (.builtin "getset_descriptor.__get__"))
  htk : PySem.W.takesIn K (.builtin "object.__class__") = some true
  hm : PySem.W.mroIn K C (.type "object") = some true
def clsTB (K : PySem.W.Frag) (C : Addr) : Bool := He.eqO (PySem.W.findIn K (.ref C) "__class__") (some (some (.builtin "object.__class__"))) && (He.eqO (PySem.W.specialIn K (.builtin "object.__class__") "__get__") (some (some (.builtin "getset_descriptor.__get__"))) && (decide (PySem.W.takesIn K (.builtin "object.__class__") = some true) && decide (PySem.W.mroIn K C (.type "object") = some true)))
theorem clsT_ok {K : PySem.W.Frag} {C : Addr} (c : Cls K C) (h : clsTB K C = true) : ClsT K C := by
  obtain ⟨h1, h⟩ := Bool.and_eq_true_iff.mp h
  obtain ⟨h2, h⟩ := Bool.and_eq_true_iff.mp h
  obtain ⟨h3, h4⟩ := Bool.and_eq_true_iff.mp h
  exact ⟨c, He.eqO_ok h1, He.eqO_ok h2, of_decide_eq_true h3, of_decide_eq_true h4⟩
/-- the class of a datum -/
inductive TyQ (K : PySem.W.Frag) (μ : Mu) : D → Value → Prop where
  | non : TyQ K μ .non (.type "NoneType")
  | bl (b) : TyQ K μ (.bl b) (.type "bool")
  | int (i) : TyQ K μ (.int i) (.type "int")
  | str (x) : TyQ K μ (.str x) (.type "str")
  | lst (xs) : TyQ K μ (.lst xs) (.type "list")
  | rl (xs) : TyQ K μ (.rl xs) (.type "list")
  | tup (xs) : TyQ K μ (.tup xs) (.type "tuple")
  | dK (ks xs) : TyQ K μ (.dK ks xs) (.type "dict")
  | own {p xs} (h : (p, Cell.lst xs) ∈ μ) : TyQ K μ (.ref p) (.type "list")
  | obj {C} (c : ClsT K C) (ns xs) : TyQ K μ (.obj C ns xs) (.ref C)
  | ins {C p dx ns xs} (c : ClsT K C) (h : (p, Cell.ins C dx ns xs) ∈ μ) : TyQ K μ (.ref p) (.ref C)
section
variable {Γ : Ct} {δ : Dl} {μ : Mu} {Q : D → Mu → Prop}
theorem tyQ_run {F H : Hp} {σ : L2.St} {d : D} {v : V} {t : Value} (a : At Γ F δ μ σ H) (r : Dp Γ.X.K F d v) (h : TyQ Γ.X.K μ d t) : TyX Γ.X.K H v t := by
  cases h with
  | non => rw [Dp] at r; subst r; exact .base .non
  | bl b => rw [Dp] at r; subst r; exact .base (.bl b)
  | int i => rw [Dp] at r; subst r; exact .base (.int i)
  | str x => rw [Dp] at r; subst r; exact .base (.str x)
  | lst xs =>
    obtain ⟨p, vs, rfl, h1, _⟩ := dpL r
    exact .base (.lst (a.sx.sub _ _ h1))
  | rl xs =>
    obtain ⟨p, vs, rfl, h1, _⟩ := dpRl r
    rcases h1 with (h1 | ⟨o, h1⟩) | ⟨o, its, n, e, c, _⟩
    · exact .base (.lst (a.sx.sub _ _ h1))
    · exact .base (.frz (a.sx.sub _ _ h1))
    · exact .kList e c
  | tup xs =>
    obtain ⟨p, vs, rfl, h1, _⟩ := dpT r
    rcases h1 with (h1 | ⟨o, h1⟩) | ⟨o, its, n, e, c, _⟩
    · exact .base (.tup (a.sx.sub _ _ h1))
    · exact .fTuple (a.sx.sub _ _ h1)
    · exact .kTuple e c
  | dK ks xs =>
    rw [Dp] at r
    obtain ⟨p, kvs, rfl, h1, _⟩ := r
    exact .base (.dK (a.sx.sub _ _ h1))
  | own h =>
    rw [dpR r]
    obtain ⟨vs, h1, _⟩ := a.sx.cells _ h
    exact .base (.lst h1)
  | obj c ns xs =>
    rw [Dp] at r
    obtain ⟨p, dx, gs, rfl, h1, _⟩ := r
    exact .base (.ins (a.sx.sub _ _ h1) c.c c.ha c.hn c.htk c.hm)
  | ins c h =>
    rw [dpR r]
    obtain ⟨gs, h1, _⟩ := a.sx.cells _ h
    exact .base (.ins h1 c.c c.ha c.hn c.htk c.hm)
/-- a class as a datum -/
def clsD : D → Option Value
  | .ty n => some (.type n)
  | .ref C => some (.ref C)
  | _ => none
theorem clsD_run {K : PySem.W.Frag} {F : Hp} {d : D} {v : V} {u : Value} (h : clsD d = some u) (r : Dp K F d v) : ClsV v u := by
  cases d <;> cases h
  · rw [Dp] at r; subst r; exact .ty _
  · rw [dpR r]; exact .own _
theorem clsDs_run {K : PySem.W.Frag} {F : Hp} : ∀ {ds : List D} {vs : List V} {us : List Value}, ds.map clsD = us.map some → Dps K F ds vs → Paired ClsV vs us
  | [], vs, [], _, r => by rw [r.unnil]; exact .nil
  | [], _, _ :: _, h, _ => by cases h
  | _ :: _, _, [], h, _ => by cases h
  | d :: ds, vs, u :: us, h, r => by
    obtain ⟨v, ws, rfl, r1, r2⟩ := r.uncons
    injection h with h1 h2
    exact .cons (clsD_run h1 r1) (clsDs_run h2 r2)
theorem cld_isi {x c : D} {t u : Value} {b : Bool} (ht : TyQ Γ.X.K μ x t) (hc : clsD c = some u) (hk : PySem.W.kitOne Γ.X.K t u = some b) (q : Q (.bl b) μ) : cld Γ (.builtin "isinstance") [x, c] δ μ Q := cld_of call_isi fun F σ H vs a r0 => by
  obtain ⟨v, ws, rfl, r1, r2⟩ := r0.uncons
  obtain ⟨w, zs, rfl, r3, r4⟩ := r2.uncons
  rw [r4.unnil]
  exact ⟨v, w, t, u, b, rfl, clsD_run hc r3, tyQ_run a r1 ht, hk, PostE.here a dpb q⟩
/-- the tuple of classes, wherever it stands -/
def rIsiS (K : PySem.W.Frag) : List V → Hp → VK → Prop := fun xs H Q => ∃ (x : V) (tp : Addr) (cs : List V) (t : Value) (us : List Value) (b : Bool), xs = [x, .ref tp] ∧ SqT K H tp cs ∧ Paired ClsV cs us ∧ TyX K H x t ∧ PySem.W.kitAny K t us = some b ∧ Q (.bl b) H
theorem call_isiS {X : Cx} : CallR X (.builtin "isinstance") (rIsiS X.K) := fun pins s σ H xs us Q I r h => by
  obtain ⟨x, tp, cs, t, ws, b, rfl, hT, k, ty, e, q⟩ := h
  obtain ⟨u1, u2, rfl, r1, r2⟩ := vals2 r
  obtain rfl : u2 = Value.ref tp := r2
  obtain ⟨P, Z, p, hx⟩ := kit_of I r1 ty
  obtain ⟨its, rv, ⟨⟨oc, od, dt, sl⟩, h1, h2, n, h3⟩, _⟩ := I.tuple hT
  obtain rfl := ClsV.all k rv
  dsimp only at h2 h3
  subst h2 h3
  exact PySem.W.kia_tup Z I.kIn p h1 e hx fun tk => ⟨.bl b, H, I.tok tk, rfl, q⟩
theorem cld_isiT {x : D} {cs : List D} {us : List Value} {t : Value} {b : Bool} (ht : TyQ Γ.X.K μ x t) (hc : cs.map clsD = us.map some) (hk : PySem.W.kitAny Γ.X.K t us = some b) (q : Q (.bl b) μ) : cld Γ (.builtin "isinstance") [x, .tup cs] δ μ Q := cld_of call_isiS fun F σ H vs a r0 => by
  obtain ⟨v, ws, rfl, r1, r2⟩ := r0.uncons
  obtain ⟨w, zs, rfl, r3, r4⟩ := r2.uncons
  rw [r4.unnil]
  obtain ⟨p, ws, rfl, h1, h2⟩ := dpT r3
  exact ⟨v, p, ws, t, us, b, rfl, Same.sqT a.sx.sub h1, clsDs_run hc h2, tyQ_run a r1 ht, hk, PostE.here a dpb q⟩
end
/-! ### membership among flat things -/
def flatD : D → Bool
  | .non | .bl _ | .int _ | .str _ => true
  | _ => false
def fE : D → D → Bool
  | .non, .non => true
  | .bl a, .bl b => a == b
  | .bl a, .int b => (if a then 1 else 0) == b
  | .int a, .bl b => a == (if b then 1 else 0)
  | .int a, .int b => a == b
  | .str a, .str b => a == b
  | _, _ => false
theorem flat_run {K : PySem.W.Frag} {F : Hp} {x : D} {v : V} (h : flatD x = true) (r : Dp K F x v) : flatV v = true := by
  cases x <;> cases h <;> (rw [Dp] at r; subst r; rfl)
theorem fE_run {K : PySem.W.Frag} {F : Hp} {x y : D} {v w : V} (h : flatD x = true) (h' : flatD y = true) (r : Dp K F x v) (r' : Dp K F y w) : eqV v w = fE x y := by
  cases x <;> cases h <;> (rw [Dp] at r; subst r) <;> cases y <;> cases h' <;> (rw [Dp] at r'; subst r'; rfl)
theorem flats_run {K : PySem.W.Frag} {F : Hp} : ∀ {xs : List D} {vs : List V}, xs.all flatD = true → Dps K F xs vs → vs.all flatV = true
  | [], vs, _, r => by rw [r.unnil]; rfl
  | x :: xs, vs, h, r => by
    obtain ⟨v, ws, rfl, r1, r2⟩ := r.uncons
    rw [List.all_cons, Bool.and_eq_true] at h ⊢
    exact ⟨flat_run h.1 r1, flats_run h.2 r2⟩
def inD (x : D) (xs : List D) : Bool := xs.any fun y => fE y x
theorem inD_run {K : PySem.W.Frag} {F : Hp} {x : D} {v : V} (h : flatD x = true) (r : Dp K F x v) : ∀ {xs : List D} {vs : List V}, xs.all flatD = true → Dps K F xs vs → inV v vs = inD x xs
  | [], vs, _, r => by rw [r.unnil]; rfl
  | y :: xs, vs, h', r' => by
    obtain ⟨w, ws, rfl, r1, r2⟩ := r'.uncons
    rw [List.all_cons, Bool.and_eq_true] at h'
    show (eqV w v || inV v ws) = (fE y x || inD x xs)
    rw [fE_run h'.1 h r1 r, inD_run h r h'.2 r2]
theorem inD_str (z : Str) : ∀ ys : List Str, inD (.str z) (ys.map .str) = decide (z ∈ ys)
  | [] => rfl
  | y :: ys => by
    show ((y == z) || inD (.str z) (ys.map .str)) = _
    rw [inD_str z ys]
    by_cases e : y = z
    · subst e; simp
    · have e' : ¬ z = y := fun h => e h.symm
      simp [e, e', List.mem_cons]
theorem inD_int (z : Int) : ∀ ys : List Int, inD (.int z) (ys.map .int) = decide (z ∈ ys)
  | [] => rfl
  | y :: ys => by
    show ((y == z) || inD (.int z) (ys.map .int)) = _
    rw [inD_int z ys]
    by_cases e : y = z
    · subst e; simp
    · have e' : ¬ z = y := fun h => e h.symm
      simp [e, e', List.mem_cons]
/-- a sequence as a datum -/
inductive SeqD (μ : Mu) : D → List D → Prop where
  | lst (xs) : SeqD μ (.lst xs) xs
  | rl (xs) : SeqD μ (.rl xs) xs
  | tup (xs) : SeqD μ (.tup xs) xs
  | own {p xs} (h : (p, Cell.lst xs) ∈ μ) : SeqD μ (.ref p) xs
section
variable {Γ : Ct} {δ : Dl} {μ : Mu} {Q : D → Mu → Prop} {x y : D} {xs : List D}
theorem seqD_run {F H : Hp} {σ : L2.St} {v : V} (a : At Γ F δ μ σ H) (h : SeqD μ y xs) (r : Dp Γ.X.K F y v) : ∃ p vs, v = .ref p ∧ (SqL Γ.X.K H p vs ∨ SqT Γ.X.K H p vs) ∧ Dps Γ.X.K F xs vs := by
  cases h with
  | lst =>
    obtain ⟨p, vs, rfl, h1, h2⟩ := dpL r
    exact ⟨p, vs, rfl, .inl (.inl (.inl (a.sx.sub _ _ h1))), h2⟩
  | rl =>
    obtain ⟨p, vs, rfl, h1, h2⟩ := dpRl r
    exact ⟨p, vs, rfl, .inl (a.sx.sub.seq h1), h2⟩
  | tup =>
    obtain ⟨p, vs, rfl, h1, h2⟩ := dpT r
    exact ⟨p, vs, rfl, .inr (Same.sqT a.sx.sub h1), h2⟩
  | own h =>
    rw [dpR r]
    obtain ⟨vs, h1, h2⟩ := a.sx.cells _ h
    exact ⟨_, vs, rfl, .inl (.inl (.inl h1)), h2⟩
theorem opd_in (hs : SeqD μ y xs) (hx : flatD x = true) (hf : xs.all flatD = true) (q : Q (.bl (inD x xs)) μ) : opd Γ (compareOp .In) x y δ μ Q := opd_of op_in_seq fun F σ H vx vy a r1 r2 => by
  obtain ⟨p, vs, rfl, h1, h2⟩ := seqD_run a hs r2
  refine ⟨p, vs, rfl, h1, flat_run hx r1, flats_run hf h2, ?_⟩
  rw [if_neg (by decide), inD_run hx r1 hf h2]
  exact PostE.here a dpb q
theorem opd_notIn (hs : SeqD μ y xs) (hx : flatD x = true) (hf : xs.all flatD = true) (q : Q (.bl (!inD x xs)) μ) : opd Γ (compareOp .NotIn) x y δ μ Q := opd_of op_notIn_seq fun F σ H vx vy a r1 r2 => by
  obtain ⟨p, vs, rfl, h1, h2⟩ := seqD_run a hs r2
  refine ⟨p, vs, rfl, h1, flat_run hx r1, flats_run hf h2, ?_⟩
  rw [if_pos rfl, inD_run hx r1 hf h2]
  exact PostE.here a dpb q
theorem flat_strs (ys : List Str) : (ys.map D.str).all flatD = true := by rw [List.all_map]; exact List.all_eq_true.mpr fun _ _ => rfl
theorem flat_ints (ys : List Int) : (ys.map D.int).all flatD = true := by rw [List.all_map]; exact List.all_eq_true.mpr fun _ _ => rfl
theorem opd_inS {z : Str} (ys : List Str) (hs : SeqD μ y xs) (e : xs = ys.map .str) (q : Q (.bl (decide (z ∈ ys))) μ) : opd Γ (compareOp .In) (.str z) y δ μ Q := by
  subst e; exact opd_in hs rfl (PD.flat_strs ys) (by rw [inD_str]; exact q)
theorem opd_notInS {z : Str} (ys : List Str) (hs : SeqD μ y xs) (e : xs = ys.map .str) (q : Q (.bl (!decide (z ∈ ys))) μ) : opd Γ (compareOp .NotIn) (.str z) y δ μ Q := by
  subst e; exact opd_notIn hs rfl (PD.flat_strs ys) (by rw [inD_str]; exact q)
end
end PD
/-! PD11: own ==, !=, str of data. -/
namespace PD
open PySem PySem.Spec PyProof.Rows L2
section
variable {Γ : Ct} {δ : Dl} {μ : Mu} {Q : D → Mu → Prop} {k j n : Nat} {f C : Addr} {sp : SpD} {dds : List D} {x y : D}
/-- an instance of the class at C -/
def InsC (C : Addr) (x : D) (μ : Mu) : Prop := match x with
  | .obj C' _ _ => C' = C
  | .ref p => ∃ dx ns ds, (p, Cell.ins C dx ns ds) ∈ μ
  | _ => False
theorem insC_run {F H : Hp} {σ : L2.St} {v : V} (a : At Γ F δ μ σ H) (h : InsC C x μ) (r : Dp Γ.X.K F x v) : ∃ p dx gs, v = .ref p ∧ H p = some (.ins C dx gs) := by
  cases x with
  | obj C' ns ds =>
    obtain rfl : C' = C := h
    rw [Dp] at r
    obtain ⟨p, dx, gs, rfl, h1, _⟩ := r
    exact ⟨p, dx, gs, rfl, a.sx.sub _ _ h1⟩
  | ref p =>
    obtain ⟨dx, ns, ds, hm⟩ := h
    obtain ⟨gs, h1, _⟩ := a.sx.cells _ hm
    rw [dpR r]
    exact ⟨p, dx, gs, rfl, h1⟩
  | _ => exact h.elim
/-- a call of a def, at any depth, that lets nothing out -/
theorem cd_deep {A' : Around} {F H : Hp} {σ σ' : L2.St} {pins : List (Addr × Obj)} {s : Shared} {ds : List D} {vs : List V} {us : List Value} (Cd : CallD Γ.X.prog Γ.X.w Γ.X.K Γ.X.mg Γ.X.base k f n dds sp) (hr : Room k A') (e0 : Env0 Γ.X.prog Γ.X.w Γ.X.K Γ.X.mg Γ.X.base A' Γ.X.stack s H)
    (I : Inv Γ.X pins σ' H s) (a : At Γ F δ μ σ H) (r : Dps Γ.X.K F ds vs) (ru : Vals vs us) (hl : (ds ++ dds).length = n) (h : sp (ds ++ dds) μ Q fun _ _ _ _ => False) :
    wpAny (model Γ.X.prog Γ.X.w) A' (call (.ref f) us) (EP Γ.X pins σ' (PostE Γ F δ σ Q)) Γ.X.xe s := by
  obtain ⟨fd, ps, dvs, dus, e, b, v, dd, G⟩ := (Cd.at_ false).ex
  have hs : spOf Γ.X.K ps.length sp (vs ++ dvs) H (PostE Γ F δ σ Q) (fun _ _ _ => False) := ⟨F, μ, ds ++ dds, Q, fun _ _ _ _ => False, a.sx, r.append (dd F), hl.trans e.symm, h,
    fun v H' F' μ' d st sx rd q => ⟨F', d, μ', st.ext, ⟨a.st.trans st, sx, a.fr.mono st.ext⟩, rd, q⟩, fun _ _ _ _ _ _ _ _ _ _ z => z⟩
  have r2 : Vals (vs ++ dvs) (us ++ dus) := ru.append v
  have l2 : (us ++ dus).length = ps.length := r2.length.symm.trans (G.len _ _ _ _ hs)
  refine wpAny_call (codeAny_mono (G.run A' Γ.X.stack s H ⟨us, []⟩ _ _ _ _ hr e0 (b s us I.kIn l2) r2 hs) fun res s' z => ?_)
  match res, z with
  | .ok (.ret u), z => exact I.after z
  | .error e, z =>
    obtain ⟨_, _, _, _, _, _, _, _, _, _, _, _, z⟩ := z
    exact z.elim
theorem typeOf_run {F H : Hp} {σ σ' : L2.St} {pins : List (Addr × Obj)} {s : Shared} {v : V} {u t : Value} (I : Inv Γ.X pins σ' H s) (a : At Γ F δ μ σ H) (h : TyQ Γ.X.K μ y t) (r : Dp Γ.X.K F y v) (ru : RelV v u) (M : Model) : PySem.W.Looks M s.heap (typeOf u) t := by
  obtain ⟨P, Z, p, _⟩ := kit_of I ru (tyQ_run a r h)
  exact Z.ty M _ I.kIn p
/-- what own == needs of the class, against a thing of type t -/
structure EqOwn (K : PySem.W.Frag) (C f : Addr) : Prop where
  at_ : PySem.W.findIn K (.ref C) "__eq__" = some (some (.ref f))
  fn : PySem.W.isFn K (.ref f) = true
/-- str(x), by an own __str__ -/
structure StrOwn (K : PySem.W.Frag) (C f : Addr) : Prop where
  at_ : PySem.W.findIn K (.ref C) "__str__" = some (some (.ref f))
  fn : PySem.W.isFn K (.ref f) = true
theorem cld_strOwn (E : StrOwn Γ.X.K C f) (hx : InsC C x μ) (Cd : CallD Γ.X.prog Γ.X.w Γ.X.K Γ.X.mg Γ.X.base k f 1 [] sp) (hr : Room j Γ.X.A) (hkj : k + 2 ≤ j)
    (h : sp [x] μ (fun d μ' => ∃ z, d = .str z ∧ Q (.str z) μ') fun _ _ _ _ => False) : cld Γ (.type "str") [x] δ μ Q := fun F σ H vs a r0 pins s σ' us I q1 => by
  obtain ⟨vx, ws, rfl, r1, r2⟩ := r0.uncons
  obtain rfl := r2.unnil
  obtain ⟨p, dx, gs, rfl, h1⟩ := insC_run a hx r1
  obtain ⟨u, rfl, ru⟩ := q1.one
  obtain rfl : u = Value.ref p := ru
  obtain ⟨mA, O, _⟩ := ins_get I.hok h1
  obtain ⟨od, J, _⟩ := O.look
  have hr2 : Room k Γ.X.A.in1.in1 := (show Room (k + 1) Γ.X.A.in1 from (hr.mono hkj).in1).in1
  have z := cd_deep Cd hr2 I.env0.in1.in1 I a (ds := [x]) (us := [Value.ref p]) (Dps.cons r1 Dps.nil) (.cons rfl .nil) rfl h
  refine PySem.W.kso_call (Nat.lt_of_le_of_lt (Nat.le_add_right _ 64) hr2.units) I.kIn J E.at_ E.fn (wpAny_mono z (fun w s' z => ?_) fun _ _ x => x)
  obtain ⟨z', H', I', rz, F', d, μ', s1, a', rd, t, rfl, q⟩ := z
  obtain rfl := dpS rd
  obtain ⟨tk, rfl⟩ := (show ∃ tk, w = Value.str t tk from rz)
  exact ⟨V.str t, H', I', ⟨tk, rfl⟩, F', _, μ', s1, a', rd, q⟩
/-! ### != by an own == -/
theorem bind_ne (self : Value) : bindSpecial (.builtin "object.__ne__") self = pure (.builtin "object.__ne__", [self]) := PySem.F.slot_tuple_iterator_ne.bind self
structure NeOwn (K : PySem.W.Frag) (C f : Addr) : Prop where
  eq : EqOwn K C f
  at_ : PySem.W.findIn K (.ref C) "__ne__" = some (some (.builtin "object.__ne__"))
  hm : PySem.W.mroIn K C (.type "object") = some true
section
variable {prog : Program} {w : World} {A : Around} {E : Value → Shared → Prop} {s : Shared} {K : PySem.W.Frag} {x C f : Addr} {ox : Obj} {od : Option Obj}
theorem own_ne {b tb : Value} {Q : Value → Shared → Prop} (hu : A.units + 1 < cLine) (X : K.In s.heap) (I : PySem.W.InstAt s.heap x ox C od) (hb : PySem.W.Looks (model prog w) s.heap (typeOf b) tb)
    (hn : PySem.W.notFirst K C tb = true) (N : NeOwn K C f) (h : wpAny (model prog w) A.in1 (call (.ref f) [.ref x, b]) (fun v s' => ∃ t, v = .bool t ∧ Q (.bool (!t)) s') E s) : wpAny (model prog w) A (richCompare .NotEq (.ref x) b) Q E s := by
  have body : wpAny (model prog w) A.in1 (Builtin.«object.__ne__» ⟨[.ref x, b], []⟩) (fun r s' => ∃ t, r = .done (.ret (.bool t)) ∧ Q (.bool t) s') E s := by
    unfold Builtin.«object.__ne__»
    repeat (first
      | with_reducible refine wpAny_cRoomFor (A := A.in1) hu ?_
      | (refine wpAny_bind (m := callSpecialIfBound? (.ref x) (Str.ofString "__eq__") [b]) (PySem.W.ifBound_K X I N.eq.at_ N.eq.fn (wpAny_mono h (fun r s' hr => ?_) fun _ _ e => e)))
      | wp_step)
    obtain ⟨t, rfl, hq⟩ := hr
    repeat (first | exact ⟨_, rfl, hq⟩ | exact wpAny_pure ⟨_, rfl, hq⟩ | (refine wpAny_bind (m := truthy (.bool _)) (wpAny_truthy_bool ?_)) | wp_step)
  have go : wpAny (model prog w) A (call (.builtin "object.__ne__") [.ref x, b]) (fun v s' => ∃ t, v = .bool t ∧ Q (.bool t) s') E s :=
    wpAny_call (codeAny_call_builtin PySem.F.slot_tuple_iterator_ne.plain PySem.F.cmpEntry_ne (PySem.W.check_slot PySem.F.cmpKind_ne PySem.F.cmpSplit_ne (I.type.andThen (PySem.W.looks_mroIn X N.hm)) (PySem.F.cmpArgs_ne _ _) (wpAny_mono body (fun r s' hr => by
      obtain ⟨t, rfl, hq⟩ := hr; exact ⟨t, rfl, hq⟩) fun _ _ e => e)))
  have bound : wpAny (model prog w) A (callSpecialIfBound? (.ref x) "__ne__" [b]) (fun r s' => ∃ t, r = some (.bool t) ∧ Q (.bool t) s') E s := by
    simp only [callSpecialIfBound?, bindSpecialIfBound?]
    refine wpAny_holding (wpAny_bind (wpAny_bind (wpAny_bind (I.type.here ((PySem.W.looks_findIn X N.at_).here ?_)))))
    simp only [bind_ne]
    refine wpAny_bind (wpAny_askSetting (wpAny_ite ?_))
    have fin : wpAny (model prog w) A (call (.builtin "object.__ne__") ([.ref x] ++ [b]) >>= fun v => pure (some v)) (fun r s' => ∃ t, r = some (.bool t) ∧ Q (.bool t) s') E s :=
      wpAny_bind (wpAny_mono go (fun v s' ⟨t, e, hq⟩ => wpAny_pure ⟨t, congrArg some e, hq⟩) fun _ _ h' => h')
    split
    · exact wpAny_bind (wpAny_pure (wpAny_pure fin))
    · exact wpAny_tryCatch (wpAny_bind (wpAny_pure (wpAny_pure fin)))
  have one : wpAny (model prog w) A (tryCompare (.ref x) "__ne__" b) (fun r s' => ∃ v, r = some v ∧ Q v s') E s := by
    unfold tryCompare
    refine wpAny_bind (wpAny_mono bound (fun r s' z => ?_) fun _ _ e => e)
    obtain ⟨t, rfl, hq⟩ := z
    exact wpAny_pure ⟨_, rfl, hq⟩
  unfold richCompare
  simp only [oneThing_ref]
  refine wpAny_holding (wpAny_bind (wpAny_cRoomFor (Nat.lt_of_succ_lt hu) ?_))
  refine wpAny_bind (I.type.here (wpAny_bind (hb.here ?_)))
  have hf : ∀ v : Value, (Value.ref C != tb) = true → wpAny (model prog w) A (isSubtype tb (.ref C)) (fun r s' => r = false ∧ s' = s) E s := fun v q => by
    have e : PySem.W.subIn K tb (.ref C) = some false := by
      rcases Bool.or_eq_true_iff.mp hn with e | e
      · rw [beq_iff_eq.mp e] at q; simp at q
      · exact beq_iff_eq.mp e
    exact (PySem.W.looks_subIn X e).here ⟨rfl, rfl⟩
  split
  · next q =>
    refine wpAny_bind (wpAny_mono (hf tb q) (fun r s' z => ?_) fun _ _ e => e)
    obtain ⟨rfl, rfl⟩ := z
    simp only [Bool.false_eq_true, if_false]
    refine wpAny_bind (wpAny_mono one (fun r s' z => ?_) fun _ _ e => e)
    obtain ⟨v, rfl, hq⟩ := z
    exact wpAny_pure hq
  · refine wpAny_bind (wpAny_pure ?_)
    simp only [Bool.false_eq_true, if_false]
    refine wpAny_bind (wpAny_mono one (fun r s' z => ?_) fun _ _ e => e)
    obtain ⟨v, rfl, hq⟩ := z
    exact wpAny_pure hq
end
theorem opd_neOwn {t : Value} (E : NeOwn Γ.X.K C f) (hx : InsC C x μ) (hy : TyQ Γ.X.K μ y t) (hn : PySem.W.notFirst Γ.X.K C t = true) (Cd : CallD Γ.X.prog Γ.X.w Γ.X.K Γ.X.mg Γ.X.base k f 2 [] sp) (hr : Room j Γ.X.A) (hkj : k + 1 ≤ j)
    (h : sp [x, y] μ (fun d μ' => ∃ b, d = .bl b ∧ Q (.bl (!b)) μ') fun _ _ _ _ => False) : opd Γ (compareOp .NotEq) x y δ μ Q := fun F σ H vx vy a r1 r2 pins s σ' v u I q1 q2 => by
  obtain ⟨p, dx, gs, rfl, h1⟩ := insC_run a hx r1
  obtain rfl : v = Value.ref p := q1
  obtain ⟨mA, O, _⟩ := ins_get I.hok h1
  obtain ⟨od, J, _⟩ := O.look
  have hr2 : Room k Γ.X.A.in1 := (hr.mono hkj).in1
  have z := cd_deep Cd hr2 I.env0.in1 I a (ds := [x, y]) (us := [Value.ref p, u]) (Dps.cons r1 (Dps.cons r2 Dps.nil)) (.cons rfl (.cons q2 .nil)) rfl h
  refine PySem.W.cmp_ofNotEq (own_ne (Nat.lt_of_le_of_lt (Nat.le_add_right _ 64) hr2.units) I.kIn J (typeOf_run I a hy r2 q2 _) hn E (wpAny_mono z (fun w s' z => ?_) fun _ _ x => x))
  obtain ⟨z', H', I', rz, F', d, μ', s1, a', rd, b, rfl, q⟩ := z
  obtain rfl := dpB rd
  obtain rfl : w = Value.bool b := rz
  exact ⟨b, rfl, .bl (!b), H', I', rfl, F', .bl (!b), μ', s1, a', dpb, q⟩
end
end PD
/-! PD12: starred items, written dicts, texts. -/
namespace PD
open PySem PySem.Spec PyProof.Rows L2
section
variable {Γ : Ct} {δ : Dl} {μ : Mu} {pos : Pos}
theorem star_list {X : Cx} {pins : List (Addr × Obj)} {σ : L2.St} {H : Hp} {s : Shared} {a : Addr} {xs : List V} {E : Value → Shared → Prop} {Q : List Value → Shared → Prop} (I : Inv X pins σ H s) (h : SqL X.K H a xs) (hQ : ∀ us s', Inv X pins σ H s' → Vals xs us → Q us s') : PySem.W.StarOf (model X.prog X.w) X.A E (.ref a) Q s := by
  obtain ⟨its, r, ⟨o, n, ho, hc, _, hd⟩, hz⟩ := I.list h
  have hl := r.length
  unfold PySem.W.StarOf notIterableAtAll
  refine wpAny_bind (wpAny_specialOf (T := "list") ⟨o, ho, hc⟩ PySem.F.slot_list_iter.lookup (wpAny_pure ⟨rfl, ?_⟩))
  exact wpAny_collect_seq a (.inl rfl) ho hc hd (fun h' hk => hQ _ _ (I.kept (t' := s.toks) hk) (by simpa using r)) (by rw [List.size_toArray]; omega)
theorem ea_star {e : Expr} {p : Pos} {es : List Expr} {Q : List D → Mu → Prop} (h : ed Γ e δ μ fun x μ1 => ∃ xs, SeqD μ1 x xs ∧ ea Γ es δ μ1 fun ds μ2 => (xs ++ ds).length ≤ sizeLine ∧ Q (xs ++ ds) μ2)
    (he : starEach (.Starred e p :: es) Γ.X.env = (true, eval e Γ.X.env) :: starEach es Γ.X.env := by rfl) : ea Γ (.Starred e p :: es) δ μ Q := fun F σ H a pos pins s I => by
  refine PySem.W.items_star (thn (h F σ H a pins s I) fun u s1 ⟨v, H1, I1, rv, F1, x, μ1, s1', a1, r1, xs, hs, q⟩ => ?_) he
  obtain ⟨q', vs, rfl, hq, r2⟩ := seqD_run a1 hs r1
  obtain rfl : u = Value.ref q' := rv
  have fin : ∀ us s', Inv Γ.X pins σ H1 s' → Vals vs us → wpAny (model Γ.X.prog Γ.X.w) Γ.X.A (spliced (backTo pos (starEach es Γ.X.env))) (fun ws s3 => AP Γ.X pins σ (PostA Γ F δ σ Q) (us ++ ws) s3) Γ.X.xe s' := fun us s' I' ru =>
    thn (q F1 σ H1 a1 pos pins s' I') fun ws s3 ⟨zs, H2, I2, rw', F2, ds, μ2, s2', a2, r3, hz, q2⟩ => ⟨vs ++ zs, H2, I2, ru.append rw', F2, xs ++ ds, μ2, s1'.trans s2', a2, (r2.mono s2').append r3, q2⟩
  rcases hq with hq | hq
  · exact star_list I1 hq fin
  · exact star_tup I1 hq fin
end
/-! ### the top with its written dicts -/
structure TXW (fa : List He.Fa) (fn : List He.DefD) (ts : List He.Tab) (ex : PySem.W.Frag → Bool) (w : World) (K : PySem.W.Frag) (mg : Str → Option Value) : Prop extends TX fa fn ex K mg where
  tab : ∀ (i : Nat) (t : He.Tab), ts[i]? = some t → ∃ es n, KDict K w (t.1 K) es n
theorem txw_of {fa : List He.Fa} {fn : List He.DefD} {ex : PySem.W.Frag → Bool} {K : PySem.W.Frag} {mg : Str → Option Value} {ts : List He.Tab} {tf : List He.Defn} {w : World} {h h' : Heap} (X : K.In h) (G : h.Ns mainGlobals mg) (c : He.SaysX fa fn ts tf ex w h' K) : TXW fa fn ts ex w K mg where
  toTX := tx_of X G c
  tab := fun i _ e => c.t.tab i e
/-- a written dict of tuples of texts -/
def kdB (K : PySem.W.Frag) (a : Addr) (kvs : List (Str × List Str)) : Bool := kvs.all fun q => match PySem.W.nsIn K a q.1 with
  | some (some (.ref p)) => tupAB K p (strDv q.2)
  | _ => false
theorem kdB_ok {K : PySem.W.Frag} {a : Addr} {kvs : List (Str × List Str)} (h : kdB K a kvs = true) {z : Str} {ys : List Str} (hq : (z, ys) ∈ kvs) : ∃ p, PySem.W.nsIn K a z = some (some (.ref p)) ∧ ∀ F, Dp K F (.tup (ys.map .str)) (.ref p) := by
  have z1 := List.all_eq_true.mp h _ hq
  dsimp only at z1
  split at z1
  · next p e => exact ⟨p, e, dp_tupS z1⟩
  · cases z1
section
variable {Γ : Ct} {δ : Dl} {μ : Mu} {Q : D → Mu → Prop} {a : Addr} {es : Array DictEntry} {n : Nat}
theorem ixd_kdT {kvs : List (Str × List Str)} {z : Str} (ys : List Str) (hd : ∃ es n, KDict Γ.X.K Γ.X.w a es n) (h : kdB Γ.X.K a kvs = true) (hq : (z, ys) ∈ kvs) (q : Q (.tup (ys.map .str)) μ) : ixd Γ (.ref a) (.str z) δ μ Q := ixd_of ix_kdict fun F σ H vx vy at_ r1 r2 => by
  obtain ⟨es, n, k⟩ := hd
  obtain ⟨p, e, hD⟩ := kdB_ok h hq
  rw [dpR r1, dpS r2]
  exact ⟨a, z, .ref p, rfl, rfl, ⟨es, n, .ref p, k.at_, k.lit, e, rfl⟩, PostE.here at_ (hD F) q⟩
theorem mtd_startswith {x z : Str} (q : Q (.bl (Txt.startswith x z)) μ) : mtd Γ "str.startswith" (.str x) [.str z] δ μ Q := mtd_of mt_startswith fun F σ H vx vs a r1 r2 => by
  rw [dpS r1]
  obtain ⟨v, rfl, r3⟩ := r2.one
  rw [dpS r3]
  exact ⟨x, z, rfl, rfl, PostE.here a dpb q⟩
end
/-! ### own classes, told apart -/
theorem kit_same {K : PySem.W.Frag} {C : Addr} : PySem.W.kitOne K (.ref C) (.ref C) = some true := by
  unfold PySem.W.kitOne; rw [if_pos (by simp)]
theorem nf_same {K : PySem.W.Frag} {C : Addr} : PySem.W.notFirst K C (.ref C) = true := by
  unfold PySem.W.notFirst; simp
def neB (K : PySem.W.Frag) (C : Addr) : Bool := He.eqO (PySem.W.findIn K (.ref C) "__ne__") (some (some (.builtin "object.__ne__"))) && decide (PySem.W.mroIn K C (.type "object") = some true)
theorem eqOwn_of {K : PySem.W.Frag} {C f : Addr} (m : Meth K C "__eq__" f) : EqOwn K C f := ⟨m.at_, m.fn⟩
theorem strOwn_of {K : PySem.W.Frag} {C f : Addr} (m : Meth K C "__str__" f) : StrOwn K C f := ⟨m.at_, m.fn⟩
theorem neOwn_of {K : PySem.W.Frag} {C f : Addr} (m : Meth K C "__eq__" f) (h : neB K C = true) : NeOwn K C f := by
  obtain ⟨h1, h2⟩ := Bool.and_eq_true_iff.mp h
  exact ⟨eqOwn_of m, He.eqO_ok h1, of_decide_eq_true h2⟩
theorem ifd {p : Prop} [Decidable p] {A B : Prop} (h1 : p → A) (h2 : ¬p → B) : if decide p = true then A else B := by
  by_cases h : p
  · rw [if_pos (by simpa using h)]; exact h1 h
  · rw [if_neg (by simpa using h)]; exact h2 h
theorem ifn {p : Prop} [Decidable p] {A B : Prop} (h1 : ¬p → A) (h2 : p → B) : if (!decide p) = true then A else B := by
  by_cases h : p
  · rw [if_neg (by simpa using h)]; exact h2 h
  · rw [if_pos (by simpa using h)]; exact h1 h
theorem ifb {b : Bool} {A B : Prop} (h1 : b = true → A) (h2 : b = false → B) : if b = true then A else B := by
  cases b
  · rw [if_neg (by decide)]; exact h2 rfl
  · rw [if_pos rfl]; exact h1 rfl
/-! ### a comprehension whose items are drawn -/
section
variable {Γ : Ct} {elt tg iter : Expr} {ifs : List Expr} {scope : Scope} {vs : List Nat} {δ : Dl} {μ : Mu} {Q : List D → Mu → Prop}
theorem lcd_all (W : Mu → Prop) (R : D → Prop) (h : eid Γ tg iter δ μ fun ds S μ1 => ds.length ≤ 1000000 ∧ W μ1 ∧ (∀ μ', W μ' → S μ') ∧
      (∀ d ∈ ds, ∀ μ', W μ' → allB Γ scope fun Γb => gv Γb tg d vs (wipeD δ vs) μ' fun δ2 μ2 => allB Γ scope fun Γc => eif Γc ifs δ2 μ2 fun b μ3 => if b = true then allB Γ scope fun Γd => ed Γd elt δ2 μ3 fun r μ4 => R r ∧ W μ4 else W μ3) ∧
      ∀ acc μ', (∀ r ∈ acc, R r) → acc.length ≤ ds.length → W μ' → Q acc μ') : lcd Γ elt tg iter ifs scope vs δ μ Q := fun F σ H a => wi_mono (h F σ H a) fun J H1 ⟨F1, ds, S, μ1, s1, a1, ok, hz, hW, hS, hb, hq⟩ => by
  refine ⟨F1, ds, S, μ1, s1, a1, ok, hz, fun i acc μ' => (∀ r ∈ acc, R r) ∧ acc.length ≤ i ∧ W μ', ⟨fun _ z => (List.not_mem_nil z).elim, Nat.le_refl _, hW⟩, fun i acc μ' _ z => ⟨hS μ' z.2.2, z.2.1⟩, ?_, fun acc μ' z => hq acc μ' z.1 z.2.1 z.2.2⟩
  rintro i d acc μ' hd ⟨z1, z2, z3⟩
  intro s H C cl fp F0 μ0 H0 F2 σ2 H2 v a2 r2
  refine wg_mono (hb d (List.mem_of_getElem? hd) μ' z3 s H C cl fp F0 μ0 H0 F2 σ2 H2 v a2 r2) fun σ3 H3 ⟨w3, F3, δ3, μ3, s3, a3, q3⟩ => ⟨w3, F3, δ3, μ3, s3, a3, ?_⟩
  intro s' H' C' cl' fp' F0' μ0' H0'
  have key : ∀ {b : Bool} {μ4 : Mu}, (if b = true then allB Γ scope fun Γd => ed Γd elt δ3 μ4 fun r μ5 => R r ∧ W μ5 else W μ4) →
      if b = true then allB Γ scope fun Γd => ed Γd elt δ3 μ4 fun r μ5 => (∀ r' ∈ acc ++ [r], R r') ∧ (acc ++ [r]).length ≤ i + 1 ∧ W μ5 else (∀ r' ∈ acc, R r') ∧ acc.length ≤ i + 1 ∧ W μ4 := fun {b μ4} z => by
    cases b with
    | false => exact ⟨z1, Nat.le_succ_of_le z2, z⟩
    | true =>
      intro s2 H2' C2 cl2 fp2 F02 μ02 H02 F5 σ5 H5 a5
      refine we_mono (z s2 H2' C2 cl2 fp2 F02 μ02 H02 F5 σ5 H5 a5) fun v' H6 ⟨F6, r, μ6, s6, a6, r6, q1, q2⟩ => ⟨F6, r, μ6, s6, a6, r6, fun r' hr' => ?_, by rw [List.length_append]; exact Nat.succ_le_succ z2, q2⟩
      rcases List.mem_append.mp hr' with e | e
      · exact z1 r' e
      · rw [List.mem_singleton.mp e]; exact q1
  have q4 := q3 s' H' C' cl' fp' F0' μ0' H0'
  match ifs, q4 with
  | [], q4 => exact key (b := true) (μ4 := μ3) q4
  | [c], q4 => exact fun F5 σ5 H5 a5 => wt_mono (q4 F5 σ5 H5 a5) fun b H6 ⟨F6, μ6, s6, a6, q6⟩ => ⟨F6, μ6, s6, a6, key q6⟩
end
theorem strs_of {P : Str → Prop} : ∀ {acc : List D}, (∀ r ∈ acc, ∃ t, r = .str t ∧ P t) → ∃ ts : List Str, acc = ts.map .str ∧ (∀ t ∈ ts, P t) ∧ ts.length = acc.length
  | [], _ => ⟨[], rfl, fun _ h => (List.not_mem_nil h).elim, rfl⟩
  | r :: acc, h => by
    obtain ⟨t, rfl, ht⟩ := h _ List.mem_cons_self
    obtain ⟨ts, rfl, h1, h2⟩ := strs_of (acc := acc) fun r hr => h r (List.mem_cons_of_mem _ hr)
    exact ⟨t :: ts, rfl, fun z hz => (List.mem_cons.mp hz).elim (fun e => e ▸ ht) (h1 z), congrArg Nat.succ h2⟩
/-! ### lists of texts compared -/
def strsOk (l : List Str) : Prop := ∀ t ∈ l, PyData.strOk t = true
theorem oks_strs : ∀ {l : List Str}, strsOk l → D.oks (l.map .str) = true
  | [], _ => by rw [List.map_nil, D.oks]
  | t :: l, h => by
    rw [List.map_cons, D.oks, D.ok, PyData.canLay0, h t List.mem_cons_self, oks_strs fun z hz => h z (List.mem_cons_of_mem _ hz)]; rfl
theorem depthAll_strs : ∀ (l : List Str), PyData.depthAll (D.pys (l.map .str)) ≤ 1
  | [] => by rw [List.map_nil, D.pys, PyData.depthAll]; omega
  | z :: l => by
    have := depthAll_strs l
    rw [List.map_cons, D.pys, D.py, PyData.depthAll, PyData.depth]; omega
theorem ok_strs {l : List Str} (h : strsOk l) : (D.lst (l.map .str)).ok = true := by rw [D.ok]; exact oks_strs h
theorem depth_strs (l : List Str) : (D.lst (l.map .str)).py.depth ≤ 64 := by
  have := depthAll_strs l
  rw [D.py, PyData.depth]; omega
theorem eqAll_strs : ∀ (a b : List Str), PyData.eqvAll (D.pys (a.map .str)) (D.pys (b.map .str)) = decide (a = b)
  | [], [] => by rw [List.map_nil, D.pys, PyData.eqvAll]; rfl
  | [], y :: b => by rw [List.map_nil, List.map_cons, D.pys, D.pys, PyData.eqvAll]; rfl
  | x :: a, [] => by rw [List.map_nil, List.map_cons, D.pys, D.pys, PyData.eqvAll]; rfl
  | x :: a, y :: b => by
    rw [List.map_cons, List.map_cons, D.pys, D.pys, D.py, D.py, PyData.eqvAll, PyData.eqv, eqAll_strs a b]
    by_cases e : x = y
    · subst e; simp
    · have : (x == y) = false := by simpa using e
      rw [this, decide_eq_false (fun h => e (List.cons.inj h).1)]; rfl
theorem eqD_strs (a b : List Str) : eqD (.lst (a.map .str)) (.lst (b.map .str)) = decide (a = b) := by
  unfold eqD; rw [D.py, D.py, PyData.eqv, eqAll_strs]
/-! ### isinstance of built-in types -/
theorem kb_NoneType_str : kitB "NoneType" "str" = some false := by decide +kernel
theorem kb_NoneType_int : kitB "NoneType" "int" = some false := by decide +kernel
theorem kb_NoneType_bool : kitB "NoneType" "bool" = some false := by decide +kernel
theorem kb_NoneType_list : kitB "NoneType" "list" = some false := by decide +kernel
theorem kb_NoneType_tuple : kitB "NoneType" "tuple" = some false := by decide +kernel
theorem kb_bool_str : kitB "bool" "str" = some false := by decide +kernel
theorem kb_bool_int : kitB "bool" "int" = some true := by decide +kernel
theorem kb_bool_bool : kitB "bool" "bool" = some true := by decide +kernel
theorem kb_bool_list : kitB "bool" "list" = some false := by decide +kernel
theorem kb_bool_tuple : kitB "bool" "tuple" = some false := by decide +kernel
theorem kb_int_str : kitB "int" "str" = some false := by decide +kernel
theorem kb_int_int : kitB "int" "int" = some true := by decide +kernel
theorem kb_int_bool : kitB "int" "bool" = some false := by decide +kernel
theorem kb_int_list : kitB "int" "list" = some false := by decide +kernel
theorem kb_int_tuple : kitB "int" "tuple" = some false := by decide +kernel
theorem kb_str_str : kitB "str" "str" = some true := by decide +kernel
theorem kb_str_int : kitB "str" "int" = some false := by decide +kernel
theorem kb_str_bool : kitB "str" "bool" = some false := by decide +kernel
theorem kb_str_list : kitB "str" "list" = some false := by decide +kernel
theorem kb_str_tuple : kitB "str" "tuple" = some false := by decide +kernel
theorem kb_list_str : kitB "list" "str" = some false := by decide +kernel
theorem kb_list_int : kitB "list" "int" = some false := by decide +kernel
theorem kb_list_bool : kitB "list" "bool" = some false := by decide +kernel
theorem kb_list_list : kitB "list" "list" = some true := by decide +kernel
theorem kb_list_tuple : kitB "list" "tuple" = some false := by decide +kernel
theorem kb_tuple_str : kitB "tuple" "str" = some false := by decide +kernel
theorem kb_tuple_int : kitB "tuple" "int" = some false := by decide +kernel
theorem kb_tuple_bool : kitB "tuple" "bool" = some false := by decide +kernel
theorem kb_tuple_list : kitB "tuple" "list" = some false := by decide +kernel
theorem kb_tuple_tuple : kitB "tuple" "tuple" = some true := by decide +kernel
theorem kb_dict_str : kitB "dict" "str" = some false := by decide +kernel
theorem kb_dict_bool : kitB "dict" "bool" = some false := by decide +kernel
theorem kb_dict_list : kitB "dict" "list" = some false := by decide +kernel
theorem kb_dict_tuple : kitB "dict" "tuple" = some false := by decide +kernel
theorem ka_NoneType {K : PySem.W.Frag} : PySem.W.kitAny K (.type "NoneType") [.type "list", .type "tuple"] = some false := kitAny_cons (kit_ty kb_NoneType_list) (fun _ => kitAny_cons (kit_ty kb_NoneType_tuple) (fun _ => kitAny_nil) fun h => nomatch h) fun h => nomatch h
theorem ka_bool {K : PySem.W.Frag} : PySem.W.kitAny K (.type "bool") [.type "list", .type "tuple"] = some false := kitAny_cons (kit_ty kb_bool_list) (fun _ => kitAny_cons (kit_ty kb_bool_tuple) (fun _ => kitAny_nil) fun h => nomatch h) fun h => nomatch h
theorem ka_int {K : PySem.W.Frag} : PySem.W.kitAny K (.type "int") [.type "list", .type "tuple"] = some false := kitAny_cons (kit_ty kb_int_list) (fun _ => kitAny_cons (kit_ty kb_int_tuple) (fun _ => kitAny_nil) fun h => nomatch h) fun h => nomatch h
theorem ka_str {K : PySem.W.Frag} : PySem.W.kitAny K (.type "str") [.type "list", .type "tuple"] = some false := kitAny_cons (kit_ty kb_str_list) (fun _ => kitAny_cons (kit_ty kb_str_tuple) (fun _ => kitAny_nil) fun h => nomatch h) fun h => nomatch h
theorem ka_list {K : PySem.W.Frag} : PySem.W.kitAny K (.type "list") [.type "list", .type "tuple"] = some true := kitAny_cons (kit_ty kb_list_list) (fun h => nomatch h) fun _ => rfl
theorem ka_tuple {K : PySem.W.Frag} : PySem.W.kitAny K (.type "tuple") [.type "list", .type "tuple"] = some true := kitAny_cons (kit_ty kb_tuple_list) (fun _ => kitAny_cons (kit_ty kb_tuple_tuple) (fun h => nomatch h) fun _ => rfl) fun h => nomatch h
theorem ka_dict {K : PySem.W.Frag} : PySem.W.kitAny K (.type "dict") [.type "list", .type "tuple"] = some false := kitAny_cons (kit_ty kb_dict_list) (fun _ => kitAny_cons (kit_ty kb_dict_tuple) (fun _ => kitAny_nil) fun h => nomatch h) fun h => nomatch h
section
variable {Γ : Ct} {δ : Dl} {μ : Mu} {Q : D → Mu → Prop}
/-- isinstance(x, (list, tuple)) of a sequence -/
theorem cld_isiSeq {x : D} {xs : List D} (hs : SeqD μ x xs) (q : Q (.bl true) μ) : cld Γ (.builtin "isinstance") [x, .tup [.ty "list", .ty "tuple"]] δ μ Q := by
  cases hs with
  | lst => exact cld_isiT (.lst _) (us := [.type "list", .type "tuple"]) rfl ka_list q
  | rl => exact cld_isiT (.rl _) (us := [.type "list", .type "tuple"]) rfl ka_list q
  | tup => exact cld_isiT (.tup _) (us := [.type "list", .type "tuple"]) rfl ka_tuple q
  | own h => exact cld_isiT (.own h) (us := [.type "list", .type "tuple"]) rfl ka_list q
/-- .. of what is none -/
theorem cld_isiNoSeq {x : D} {a : String} (h : TyQ Γ.X.K μ x (.type a)) (hk : PySem.W.kitAny Γ.X.K (.type a) [.type "list", .type "tuple"] = some false) (q : Q (.bl false) μ) : cld Γ (.builtin "isinstance") [x, .tup [.ty "list", .ty "tuple"]] δ μ Q := cld_isiT h (us := [.type "list", .type "tuple"]) rfl hk q
end
/-! ### any sequence -/
section
variable {Γ : Ct} {δ : Dl} {μ : Mu} {Q : D → Mu → Prop} {x : D} {xs : List D}
theorem cld_len_seq (hs : SeqD μ x xs) (q : Q (.int xs.length) μ) : cld Γ (.builtin "len") [x] δ μ Q := by
  cases hs with
  | lst => exact cld_len_lst q
  | rl => exact cld_len_rl q
  | tup => exact cld_len_tup q
  | own h => exact cld_len_own h q
theorem cld_tuple_rl (q : Q (.tup xs) μ) : cld Γ (.type "tuple") [.rl xs] δ μ Q := cld_of call_tuple_of fun F σ H vs a r0 => by
  obtain ⟨v, rfl, r⟩ := r0.one
  obtain ⟨p1, vs, rfl, h1, h2⟩ := dpRl r
  refine ⟨p1, vs, rfl, .inl ⟨a.sx.sub.seq h1, fun p hp => ?_⟩⟩
  exact PostE.new a hp (dpt (.inl (.inl upd_same)) (h2.mono (same_upd (a.sx.sub.free hp)))) q
theorem cld_tuple_seq (hs : SeqD μ x xs) (q : Q (.tup xs) μ) : cld Γ (.type "tuple") [x] δ μ Q := by
  cases hs with
  | lst => exact cld_tuple_lst q
  | rl => exact cld_tuple_rl q
  | tup => exact cld_tuple_tup q
  | own h => exact cld_tuple_own h q
theorem itd_seq {tg : Expr} {R : List D → (Mu → Prop) → Mu → Prop} (hs : SeqD μ x xs) (q : R xs (fun μ' => SeqD μ' x xs) μ) : itd Γ tg x δ μ R := by
  have yes : ∀ {y : D}, (∀ μ', SeqD μ' y xs) → (fun μ' => SeqD μ' y xs) = fun _ => True := fun h => funext fun μ' => propext ⟨fun _ => trivial, fun _ => h μ'⟩
  cases hs with
  | lst => rw [yes fun μ' => .lst _] at q; exact itd_lst q
  | rl => rw [yes fun μ' => .rl _] at q; exact itd_rl q
  | tup => rw [yes fun μ' => .tup _] at q; exact itd_tup q
  | @own p xs h =>
    have e : (fun μ' => SeqD μ' (.ref p) xs) = fun μ' => (p, Cell.lst xs) ∈ μ' := funext fun μ' => propext ⟨fun z => by cases z; assumption, fun z => .own z⟩
    rw [e] at q; exact itd_own h q
end
def strOf : D → Str | .str x => x | _ => ""
theorem SeqD.cons {μ : Mu} {x : D} {xs : List D} (h : SeqD μ x xs) (c : Addr × Cell) : SeqD (c :: μ) x xs := by
  cases h with
  | lst => exact .lst _
  | rl => exact .rl _
  | tup => exact .tup _
  | own h => exact .own (List.mem_cons_of_mem _ h)
/-! ### defs with defaults -/
theorem CallD.mkD {P : Program} {w : World} {K : PySem.W.Frag} {mg : Str → Option Value} {base : Heap} {k : Nat} {f : Addr} {sp : SpD} {x qual : Str} {params : Arguments} {body : List Stmt} {scope : Scope} {dvs : List V} {kws : List (Str × V)} {fd : FuncData} {ps : List Str} (F : FunD K x qual params body scope dvs kws f fd) (G : ∀ {b : Md}, FnD b P w K mg base k f fd ps sp)
    (n j : Nat) (hd : dvs ≠ []) (hn : n + (dvs.length - j) = ps.length) (dds : List D) (hdd : DfD K dds (dvs.drop j))
    (h : ∀ (T : Addr) (kV doc pm : Value) (an : Option Addr) (cdv ct : Value) (us its : List Value), us.length = n → its.length = dvs.length →
      ∃ k, bindArgs (PySem.W.fnOf x qual params body scope (.ref T) kV doc pm an cdv ct) ⟨us, []⟩ = seqItems? (.ref T) >>= k ∧ k (some its.toArray) = pure (ps.zip (us ++ its.drop j))) : CallD P w K mg base k f ps.length dds sp := by
  obtain ⟨ds, v, b⟩ := F.binds1 n j hd hn h
  exact ⟨fun _ => ⟨⟨fd, ps, _, ds, rfl, b, v, hdd, G⟩, F.kp⟩⟩
/-! ### texts that are joined -/
theorem len_joinL (S : List Nat) : ∀ ps : List (List Nat), (TL.joinL S ps).length ≤ (ps.map (·.length)).sum + ps.length * S.length
  | [] => by simp [TL.joinL]
  | [p] => by simp [TL.joinL]
  | p :: q :: r => by
    have ih := len_joinL S (q :: r)
    show (p ++ (S ++ TL.joinL S (q :: r))).length ≤ _
    rw [List.length_append, List.length_append, List.map_cons, List.sum_cons, List.length_cons, Nat.succ_mul]
    omega
theorem len_join (z : Str) (ys : List Str) : (Txt.join z ys).length ≤ (ys.map (·.length)).sum + ys.length * z.length := by
  have h := len_joinL (TL.tl z) (ys.map TL.tl)
  rw [← TL.tl_join, ← TL.join_eq, List.map_map, List.length_map] at h
  exact h
theorem sum_le {ys : List Str} {n : Nat} (h : ∀ y ∈ ys, y.length ≤ n) : (ys.map (·.length)).sum ≤ ys.length * n := by
  induction ys with
  | nil => simp
  | cons y ys ih =>
    have h1 := h y List.mem_cons_self
    have h2 := ih fun z hz => h z (List.mem_cons_of_mem _ hz)
    rw [List.map_cons, List.sum_cons, List.length_cons, Nat.succ_mul]
    omega
section
variable {Γ : Ct} {δ : Dl} {μ : Mu} {Q : D → Mu → Prop} {x : D} {xs : List D}
theorem mtd_joinS {z : Str} (ys : List Str) (hs : SeqD μ x xs) (e : xs = ys.map .str) (hl : (ys.map (·.length)).sum + ys.length * z.length ≤ 16777216) (q : Q (.str (Txt.join z ys)) μ) :
    mtd Γ "str.join" (.str z) [x] δ μ Q := mtd_of mt_join fun F σ H vx vs a r1 r2 => by
  rw [dpS r1]
  obtain ⟨v, rfl, r3⟩ := r2.one
  obtain ⟨p, vs, rfl, h1, h2⟩ := seqD_run a hs r3
  subst e
  obtain rfl := Dps.strs h2
  exact ⟨z, p, ys, rfl, rfl, h1, hl, PostE.here a dps q⟩
end
/-! ### a cell that is needed no more -/
section
variable {Γ : Ct} {e : Expr} {δ : Dl} {μ : Mu} {Q : D → Mu → Prop}
theorem cell_some {K : PySem.W.Frag} {F H : Hp} {p : Addr} {c : Cell} (h : CellOk K F H p c) : ∃ o, H p = some o := by
  cases c with
  | lst ds => obtain ⟨vs, h, _⟩ := h; exact ⟨_, h⟩
  | ins C dx ns ds => obtain ⟨gs, h, _⟩ := h; exact ⟨_, h⟩
  | dK ks ds => obtain ⟨kvs, h, _⟩ := h; exact ⟨_, h⟩
  | dT ks ds => obtain ⟨kvs, h, _⟩ := h; exact ⟨_, h⟩
  | dF od gs ds => exact ⟨_, h.1⟩
  | set S n => exact ⟨_, h⟩
theorem ed_drop (h : ed Γ e δ μ fun d μ' => ∃ μa c μb, μ' = μa ++ c :: μb ∧ Q d (μa ++ μb)) : ed Γ e δ μ Q := fun F σ H a => by
  refine we_mono (h F σ H a) fun v H' ⟨F', d, μ', s', a', r, μa, c, μb, e, q⟩ => ?_
  subst e
  obtain ⟨p, c⟩ := c
  obtain ⟨o, ho⟩ := cell_some (a'.sx.cells (p, c) mem_mid)
  have sF : Same F' (upd F' p o) := same_upd (a'.sx.off (p, c) mem_mid)
  exact ⟨_, d, _, s'.trans sF, a'.freeze ho, r.mono sF, q⟩
end
theorem small_eq {n : Nat} (m : Nat) (e : n = m) (h : m ≤ 100000 := by decide) : n ≤ sizeLine := by subst e; exact small_le h
end PD
/-! PD13: the order of the cells, cells given up; truth values by repr and is. -/
namespace PD
open PySem PySem.Spec PyProof.Rows L2
section
variable {Γ : Ct} {F : Hp} {δ : Dl} {μ μ' : Mu} {σ : L2.St} {H : Hp} {e : Expr} {rest : List Stmt} {st : Stmt} {E : En} {Q : D → Mu → Prop}
theorem dom_perm (p : μ.Perm μ') : (dom μ).Perm (dom μ') := p.map _
theorem At.perm (a : At Γ F δ μ σ H) (p : μ.Perm μ') : At Γ F δ μ' σ H where
  st := ⟨a.st.ext, a.st.keep, a.st.new, fun b hb => a.st.cell b ((dom_perm p).mem_iff.mpr hb)⟩
  sx := ⟨a.sx.sub, fun c hc => a.sx.off c (p.mem_iff.mpr hc), (dom_perm p).nodup_iff.mp a.sx.nd, fun c hc => a.sx.cells c (p.mem_iff.mpr hc)⟩
  fr := a.fr
theorem sds_mu (μ' : Mu) (p : μ.Perm μ') (h : sds Γ rest δ μ' E) : sds Γ rest δ μ E := fun F σ H a => h F σ H (a.perm p)
end
section
variable {Γ : Ct} {δ : Dl} {μ : Mu} {Q : D → Mu → Prop}
theorem call_repr_bl {X : Cx} : CallR X (.builtin "repr") (fun xs H Q => ∃ b, xs = [.bl b] ∧ Q (.str (if b then "True" else "False")) H) := fun pins s σ H xs us Q I r h => by
  obtain ⟨b, rfl, q⟩ := h
  obtain ⟨u, rfl, e⟩ := vals1 r
  obtain rfl : u = Value.bool b := e
  exact PySem.P.repr_of_bool ⟨.str _, H, I.tok _, ⟨_, rfl⟩, q⟩
theorem cld_repr_bl {b : Bool} (q : Q (.str (if b then "True" else "False")) μ) : cld Γ (.builtin "repr") [.bl b] δ μ Q := cld_of call_repr_bl fun F σ H vs a r0 => by
  obtain ⟨v, rfl, r⟩ := r0.one
  rw [dpB r]; exact ⟨b, rfl, PostE.here a dps q⟩
theorem op_isB {X : Cx} : OpR X (compareOp .Is) (fun x y H Q => ∃ a b, x = .bl a ∧ y = .bl b ∧ Q (.bl (a == b)) H) := fun pins s σ H x y v u Q I rx ry h => by
  obtain ⟨a, b, rfl, rfl, q⟩ := h
  obtain rfl : v = Value.bool a := rx
  obtain rfl : u = Value.bool b := ry
  exact wpAny_is_plain rfl (fin_bl I q (by cases a <;> cases b <;> rfl))
theorem opd_isB {a b : Bool} (q : Q (.bl (a == b)) μ) : opd Γ (compareOp .Is) (.bl a) (.bl b) δ μ Q := opd_of op_isB fun F σ H vx vy a' r1 r2 => by
  rw [dpB r1, dpB r2]; exact ⟨a, b, rfl, rfl, PostE.here a' dpb q⟩
end
end PD
/-! PD14: own exceptions that keep one thing, over any built-in base: made, raised. -/
namespace PySem
namespace PDX
open PySem.W PySem.Calls PyProof.Rows Builtin Builtin.ObjectAttr
section
variable {prog : Program} {w : World} {A : Around} {E : Value → Shared → Prop} {R : Result → Shared → Prop} {hp : Heap} {g : Array GenState} {d : Drawn} {t : Nat} {os : OsState}
/-- the first thing that is stored on an exception: its dict is laid -/
theorem first_store {B : String} {tl : List Value} {K : Frag} {name : Str} {tk : Tok} {v : Value} {x C : Addr} {fv : Array Value} {cd : ClassData} (SF : StoreFacts B tl "object.__setattr__" "object") (X : K.In hp)
    (hx : hp.get? x = some { cls := .ref C, data := .fields fv }) (ho : excOver K C tl = true) (hcd : clsIn K C = some cd) (hh : cd.hasDict = true) (ha : findIn K (.ref C) name = some none)
    (k : ∀ h' tk' dx, (∀ b o, b ≠ x → hp.get? b = some o → h'.get? b = some o) → hp.objs.size ≤ dx → dx ≠ x → h'.get? x = some { cls := .ref C, dict := some dx, data := .fields fv } → h'.Ns1 dx (fun y => if y = name then some v else none) → R (.ok (.ret .none)) ⟨h', g, d, tk', os⟩) :
    codeAny (model prog w) A (.call (.builtin "object.__setattr__") ⟨[.ref x, .str name tk, v], []⟩) R ⟨hp, g, d, t, os⟩ := by
  have J : InstAt hp x { cls := .ref C, data := .fields fv } C none := ⟨hx, rfl, rfl, trivial⟩
  have no : takerIn K C name = some none := by unfold takerIn; rw [ha]; rfl
  have far : x ≠ hp.objs.size := Nat.ne_of_lt (Heap.lt_size hx)
  have LC : Looks (model prog w) hp (classData C) cd := looks_clsIn X hcd
  refine osa_openX (od := none) SF X J ho no fun b => ?_
  show wpAny _ _ (storeInOwnDict (.ref x) (.ref C) (.str name tk) name v b) _ _ _
  obtain ⟨c1, c2, c3, c4, c5, c6, c7, c8, c9, c10, c11⟩ := cd
  dsimp only at hh
  subst hh
  unfold storeInOwnDict ownDictForStores
  repeat (first | with_reducible refine PySem.HandSPX.store_in_new ?_ ?_ | with_reducible refine wpAny_loadPart_at hx ?_ | with_reducible refine LC.at ?_ | wp_step)
  · exact ⟨_, #[], _, (Heap.get?_update_ne _ _ _ _ far.symm).trans (Heap.get?_push_at rfl rfl), rfl, fun e he => absurd he (by simp), fun _ => rfl⟩
  · intro h' tk' hn' hs
    have hx1 : (hp.push { cls := .type "dict", data := .dict #[] }).get? x = some { cls := .ref C, data := .fields fv } := Heap.get?_push_of_some _ hx
    exact k h' tk' hp.objs.size (fun b o hb ho => (hs.2 b (Nat.ne_of_lt (Heap.lt_size ho))).trans ((Heap.get?_update_ne _ _ _ _ hb).trans (Heap.get?_push_of_some _ ho))) (Nat.le_refl _) far.symm
      ((hs.2 x far).trans (Heap.get?_update_self _ hx1 rfl)) hn'
end
end PDX
end PySem
namespace PD
open PySem PySem.Spec PyProof.Rows L2
theorem nm_vis {N : List Str} {sc : Scope} {i : Nat} {x : Str} (n : Nm N sc i x) : Vis sc x := by
  rcases n.loc with h | h
  · exact .inl h
  · exact .inr (.inl h)
/-- a built-in base of exceptions -/
structure Bas (B newId initId : String) (tl : List Value) : Prop where
  F : ExcBaseFacts B newId initId tl
  S : PySem.StoreFacts B tl "object.__setattr__" "object"
/-- an own class over it -/
structure OexG (newId : String) (tl : List Value) (K : PySem.W.Frag) (C : Addr) : Prop where
  cls : ∃ nm q N bs bm sn sub ab col dd k0 k1 k2 k3 k5, K.lookup C = some (excClassObj nm q C N bs bm true sn sub ab col dd k0 k1 k2 k3 k5 newId) ∧ PySem.W.excTail tl bm = true
  sa : PySem.W.findIn K (.ref C) "__setattr__" = some (some (.builtin "object.__setattr__"))
  exC : PySem.W.subIn K (.ref C) (.type "BaseException") = some true
  tyC : PySem.W.typeIn K (.ref C) = some (.type "type")
  kC : PySem.W.keepIn K (.ref C) = true
section
variable {X : Cx} {B newId initId : String} {tl : List Value}
/-- self.f = y, the first one -/
theorem st_first {pins : List (Addr × Obj)} {σ : L2.St} {H : Hp} {s : Shared} {a C : Addr} {f : Str} {y : V} {u : Value} {Q : Unit → Shared → Prop} {E : Value → Shared → Prop} {A : Around} (Z : Bas B newId initId tl) (T : OexG newId tl X.K C) (I : Inv X pins σ H s) (e : H a = some (exo a C none))
    (hno : PySem.W.findIn X.K (.ref C) f = some none) (ry : RelV y u) (h : ∀ dx s', H dx = none → dx ≠ a → Inv X pins σ (upd (upd H dx (exd dx [(f, y)])) a (exo a C (some dx))) s' → Q () s') : wpAny (model X.prog X.w) A (setAttr (.ref a) f u) Q E s := by
  obtain ⟨nm, q, N, bs, bm, sn, sub, ab, col, dd, k0, k1, k2, k3, k5, look, tail⟩ := T.cls
  have cl : PySem.W.clsIn X.K C = some { name := nm, bases := bs, mro := .ref C :: bm, ns := N, qualname := q, hasDict := true, slotNames := sn, subclasses := sub, abstract := ab, collection := col, hasDel := false } := by unfold PySem.W.clsIn; rw [look] <;> rfl
  have over : PySem.W.excOver X.K C tl = true := by
    unfold PySem.W.excOver
    rw [cl]
    show (C == C && PySem.W.excTail tl bm) = true
    rw [tail, beq_self_eq_true]; rfl
  obtain ⟨t1, stands⟩ := exo_at I.hok e
  obtain ⟨hp, g, d, t, os⟩ := s
  refine PySem.W.set_plain I.kIn (ox := { cls := .ref C, dict := none, data := .fields #[.ref t1, .none, .none, .none, .bool false, .none] }) (od := none) ⟨stands, rfl, rfl, trivial⟩ T.sa (PySem.PDX.first_store Z.S I.kIn stands over cl rfl hno fun h' tk' dx keep dn dne hx hn => ?_)
  have free : H dx = none := I.hok.fresh dn
  have old : ∀ {b : Addr} {o : Obj}, hp.get? b = some o → b ≠ dx := fun {b o} z => Nat.ne_of_lt (Nat.lt_of_lt_of_le (Heap.lt_size z) dn)
  have nota : ∀ {b : Addr}, H b = none → b ≠ a := fun {b} n z => by rw [z, e] at n; cases n
  have un : Un X.fs [] H (upd (upd H dx (exd dx [(f, y)])) a (exo a C (some dx))) hp h' :=
    ⟨fun b o z n _ _ => keep b o (nota n) z, fun b o z n _ _ => ⟨o.slots, keep b o (nota n) z⟩, fun b o z n _ => (upd_ne (nota n)).trans ((upd_ne (old z)).trans n), fun b o z _ => by
        by_cases q : b = a
        · exact ⟨_, q ▸ hx⟩
        · exact ⟨o, keep b o q z⟩, fun b xs z => (upd_ne (at_ne e z exo_tup)).trans ((upd_ne (ne_of_none z free)).trans z), fun b o v z => (upd_ne (at_ne e z exo_frz)).trans ((upd_ne (ne_of_none z free)).trans z),
      fun b ps z => ⟨#[], by rw [upd_ne (at_ne e z exo_tbl), upd_ne (ne_of_none z free), z]; simp⟩⟩
  refine h dx _ free dne (I.un (t' := tk') un fun b o z => ?_)
  by_cases q : b = a
  · subst q
    rw [upd_same] at z
    cases z
    exact exo_ok hx
  · rw [upd_ne q] at z
    by_cases q2 : b = dx
    · subst q2
      rw [upd_same] at z
      cases z
      exact exd_ok hn (relO_put (fs := []) ry fun _ => True.intro)
    · rw [upd_ne q2] at z
      refine (I.hok b o z).stay (fun c v hc y => keep c v ?_ y) (fun c hc => (upd_ne (at_ne e hc exo_own)).trans ((upd_ne (ne_of_none hc free)).trans hc)) fun c xs hc => (upd_ne (at_ne e hc exo_tup)).trans ((upd_ne (ne_of_none hc free)).trans hc)
      rcases hc with rfl | hc
      · exact q
      · exact at_ne e hc exo_own
theorem ps_stFirst {o e : Expr} {to te : TE} {f : Str} {p' pos : Pos} (Z : Bas B newId initId tl) (ho : PE X o to) (he : PE X e te) (hs : swapsWith e (some (.Attribute o f p')) pos.line X.env = pure false := by rfl) :
    PS X (.Assign [.Attribute o f p'] e pos) (fun D σ H => te σ H fun y H1 => to σ H1 fun x H2 => ∃ a C : Addr, x = .ref a ∧ OexG newId tl X.K C ∧ PySem.W.findIn X.K (.ref C) f = some none ∧ H2 a = some (exo a C none) ∧ ∀ dx, H2 dx = none → dx ≠ a → D.nx σ (upd (upd H2 dx (exd dx [(f, y)])) a (exo a C (some dx)))) where
  run := fun pins s σ H D I h => plainObj_wpAny_Assign_Attribute (thn (he.run pins s σ H _ I h) fun v s1 ⟨y, H1, I1, r1, q1⟩ => thn (ho.run pins s1 σ H1 _ I1 q1) fun u s2 ⟨x, H2, I2, r2, a, C, ex, T, hno, ea, q⟩ => by
    subst ex
    obtain rfl : u = Value.ref a := r2
    exact st_first Z T I2 ea hno r1 fun dx s' n ne J => ⟨σ, _, J, q dx n ne⟩) hs
/-- C(e, ..): what is made has None for its context -/
theorem pmk_gN {e : Expr} {es : List Expr} {ta : TA} {p pos : Pos} {CX : CXT} {x : Str} {C fI : Addr} {k : Nat} {fd : FuncData} {ps : List Str} {sp : Sp} {ds : List Value} {dvs : List V} (Z : Bas B newId initId tl) (T : OexG newId tl X.K C)
    (iC : PySem.W.findIn X.K (.ref C) "__init__" = some (some (.ref fI))) (tI : PySem.W.typeIn X.K (.ref fI) = some (.type "function")) (G : L2.FnOk X.prog X.w X.K X.mg X.base CX k fI fd ps sp) (hr : L2.Room (k + 1) X.A) (hb : Binds X.K fd ps ds) (hd : Vals dvs ds) (hx : Passes CX X (fun _ _ _ => False))
    (hg : Gl X x) (hm : X.mg x = some (.ref C)) (ha : PA X (e :: es) ta) (hdb : (x == ("__debug__" : Str)) = false) (he : starEach (e :: es) X.env = (false, eval e X.env) :: starEach es X.env) (hpl : (backTo pos (starEach es X.env)).any (·.1) = false) :
    L2N.PMk X (.Call (.Name x p) (e :: es) [] pos) (tMkO C sp dvs ta) := fun pins s σ H Q I h => by
  obtain ⟨nm, q, N, bs, bm, sn, sub, ab, col, dd, k0, k1, k2, k3, k5, look, tail⟩ := T.cls
  refine wpAny_Call_Name_kw (ld_glob I hg hm (PySem.W.callWith_K (h₀ := X.base) I.ok.mod.kin T.kC (thn (ha.run pos pins s σ H _ I h) fun us s1 ⟨vs, H1, I1, r1, hz, q1⟩ => ⟨I1.kIn, ?_⟩) he hpl) hdb)
  obtain ⟨hp, g, dr, tk, os⟩ := s1
  let n := hp.objs.size
  let hp2 := (hp.push (PySem.W.kdv_tup us)).push (PySem.HandSPX.excO C n)
  have nn : n ≤ n + 1 := Nat.le_succ _
  have want := q1 (n + 1) (I1.hok.fresh nn)
  have keep : ∀ b o, hp.get? b = some o → hp2.get? b = some o := fun b o z => Heap.get?_push_of_some _ (Heap.get?_push_of_some _ z)
  have there : hp2.get? (n + 1) = some (PySem.HandSPX.excO C n) := by
    show ((hp.push (PySem.W.kdv_tup us)).push (PySem.HandSPX.excO C hp.objs.size)).get? (hp.objs.size + 1) = _
    heap_get
  have I2 : Inv X pins σ (upd H1 (n + 1) (exo (n + 1) C none)) ⟨hp2, g, dr, tk, os⟩ := I1.laid (t' := tk) (a := n + 1) (o := exo (n + 1) C none) (h' := hp2) keep nn (exo_ok there)
  have rr : Vals (V.ref (n + 1) :: (vs ++ dvs)) (Value.ref (n + 1) :: (us ++ ds)) := .cons rfl (r1.append hd)
  have ln : (Value.ref (n + 1) :: us ++ ds).length = ps.length := (rr.length.symm.trans (G.len _ _ _ _ want) :)
  have small : us.length ≤ sizeLine := by rw [← Paired.length r1, sizeLine_eq]; omega
  have go := G.run _ X.stack _ _ ⟨Value.ref (n + 1) :: us, []⟩ _ _ _ (fun _ _ _ => False) (hr.make C us []) (I2.env0.make C us []) (hb _ (Value.ref (n + 1) :: us) I2.kIn ln) rr want
  refine wpAny_call (PySem.HandSPX.call_own Z.F (fun Y => PySem.W.excTail_contains Y bm tail) (I1.kIn _ _ look) (PySem.W.looks_findIn I1.kIn iC) (fun self => PySem.W.bind_fn I1.kIn self tI) small (codeAny_mono go fun res s' z => ?_))
  match res, z with
  | .error er, z => exact hx pins σ _ _ er s' I2 z
  | .ok (.ret u), z =>
    obtain ⟨v, H2, os2, bare2, un2, hok2, rv, rfl, d, fs, ea, ed, hd1, q2⟩ := z
    obtain ⟨h2, g2, d2, t2, os'⟩ := s'
    obtain ⟨t0, G2, J, kG, ge, hoe, na⟩ := mk_end0 (d2 := d2) (t2 := t2) I1 nn keep un2 hok2 os2 bare2 ea ed hd1
    exact ⟨rv, n + 1, _, _, ⟨G2, g2, d2, t2, os'⟩, _, .ref C, some d, rfl, J, kG, ge, hoe, ⟨rfl, rfl, fun vs hv => by cases hv; rfl⟩, rfl, rfl, na, rfl, bare2, raises_own T.exC T.tyC, q2⟩
end
/-! ### def __init__(self, x): self.f = x -/
def spOexG (newId : String) (tl : List Value) (K : PySem.W.Frag) (fl : Str) : Sp := fun vs H Q _ => ∃ a C v, vs = [.ref a, v] ∧ OexG newId tl K C ∧ PySem.W.findIn K (.ref C) fl = some none ∧ H a = some (exo a C none) ∧ ∀ dx, H dx = none → dx ≠ a → Q .non (upd (upd H dx (exd dx [(fl, v)])) a (exo a C (some dx)))
section
variable {P : Program} {w : World} {K : PySem.W.Frag} {mg : Str → Option Value} {base : Heap} {B newId initId : String} {tl : List Value}
theorem fn_oexG {fl xs xx qual : Str} {params : Arguments} {scope : Scope} {kws : List (Str × V)} {fI : Addr} {fd : FuncData} {N : List Str} {k : Nat} {p1 p2 p3 p4 : Pos} (Z : Bas B newId initId tl) (F : FunD K "__init__" qual params [.Assign [.Attribute (.Name xs p1) fl p2] (.Name xx p3) p4] scope [] kws fI fd) (S : FnScope N [xs, xx] scope) (n0 : Nm N scope 0 xs) (n1 : Nm N scope 1 xx) :
    L2.FnOk P w K mg base (L2.CX P w) (k + 1) fI fd [xs, xx] (spOexG newId tl K fl) := by
  refine F.ok S (fun vs H Q E h => ?_) (fun cdv A outer s H vs Q E hr h => ?_)
  · obtain ⟨a, C, v, rfl, _⟩ := h; rfl
  · obtain ⟨a, C, v, rfl, T, hno, ha, q⟩ := h
    exact ⟨_, pss_one (ps_stFirst Z (pe_var (i := 0) n0.at_ (nm_vis n0) n0.dbg n0.cls) (pe_var (i := 1) n1.at_ (nm_vis n1) n1.dbg n1.cls)), v, rfl, .ref a, rfl, a, C, rfl, T, hno, ha, fun dx h1 h2 => q dx h1 h2⟩
end
/-- an own exception class whose __init__ keeps one thing under fl -/
structure ExcMk (P : Program) (w : World) (K : PySem.W.Frag) (mg : Str → Option Value) (base : Heap) (C : Addr) (fl : Str) : Prop where
  hno : PySem.W.findIn K (.ref C) fl = some none
  ex : ∃ B newId initId tl fI fd ps, Bas B newId initId tl ∧ OexG newId tl K C ∧ PySem.W.findIn K (.ref C) "__init__" = some (some (.ref fI)) ∧ PySem.W.typeIn K (.ref fI) = some (.type "function") ∧ Binds K fd ps [] ∧ L2.FnOk P w K mg base (L2.CX P w) 1 fI fd ps (spOexG newId tl K fl)
section
variable {Γ : Ct} {δ : Dl} {μ : Mu} {E : En} {e : Expr} {x fl : Str} {C : Addr} {p p2 pos : Pos} {j : Nat}
theorem pass_none {X : Cx} : Passes (L2.CX X.prog X.w) X (fun _ _ _ => False) := fun pins σ H s e s' I h => by
  obtain ⟨_, _, _, _, _, _, _, _, _, _, _, _, z⟩ := h
  exact z.elim
theorem upd_del {H : Hp} {a dx : Addr} {o o1 o2 o3 : HO} (ha : H a = none) (hne : dx ≠ a) : upd (del (upd (upd (upd H a o) dx o1) a o2) a) dx o3 = upd H dx o3 := by
  funext b
  by_cases e : b = dx
  · subst e; rw [upd_same, upd_same]
  · rw [upd_ne e, upd_ne e]
    by_cases e2 : b = a
    · subst e2; rw [del_same, ha]
    · rw [del_ne e2, upd_ne e2, upd_ne e, upd_ne e2]
theorem ps_raiseB {b : Md} {X : Cx} {W : WX} {e : Expr} {t : L2.St → Hp → XK → Prop} {pos : Pos} (hc : X.calm = true) (tk : TkB b X W) (he : L2N.PMk X e t) : PS X (.Raise (some e) none pos) (fun _ σ H => t σ H fun cls d H' => W cls d σ H') := by
  exact L2N.ps_raise hc tk.n he
theorem sd_raiseOwn (hc : Γ.X.calm = true) (M : ExcMk Γ.X.prog Γ.X.w Γ.X.K Γ.X.mg Γ.X.base C fl) (hr : Room j Γ.X.A) (hj : 2 ≤ j) (hm : Γ.X.mg x = some (.ref C)) (h : ed Γ e δ μ fun d μ' => Γ.W (.ref C) [fl] [d] δ μ') (hg : Gl Γ.X x := by rfl) (hdb : (x == ("__debug__" : Str)) = false := by decide +kernel)
    (he : starEach [e] Γ.X.env = (false, eval e Γ.X.env) :: starEach [] Γ.X.env := by rfl) (hpl : (backTo p2 (starEach [] Γ.X.env)).any (·.1) = false := by rfl) : sd Γ (.Raise (some (.Call (.Name x p) [e] [] p2)) none pos) δ μ E := fun F σ H a => by
  obtain ⟨B, newId, initId, tl, fI, fd, ps, Z, T, i1, i2, b, G⟩ := M.ex
  refine ws_of (ps_raiseB hc Γ.tk (pmk_gN Z T i1 i2 G (hr.mono hj).r b .nil pass_none hg hm (pa_cons pe_we pa_nil he) hdb he hpl)) ?_
  refine we_mono (h F σ H a) fun v H1 ⟨F1, d, μ1, s1, a1, r1, q⟩ => ?_
  refine ⟨by simp, fun a' ha' => ⟨a', C, v, rfl, T, M.hno, upd_same, fun dx hdx hne => ⟨rfl, dx, [(fl, v)], upd_same, ?_, ?_, ?_⟩⟩⟩
  · rw [upd_ne hne, upd_same]
  · rw [upd_ne hne] at hdx; exact hdx
  · rw [upd_ne hne] at hdx
    rw [upd_del ha' hne]
    have a2 := a1.pers (.xd [(fl, v)]) hdx
    exact ⟨upd F1 dx (.xd [(fl, v)]), μ1, δ, [fl], [d], a2.st, a2.sx, a2.fr, .inr ⟨dx, [(fl, v)], rfl, upd_same, rfl, Dps.cons (r1.mono (same_upd (a1.sx.sub.free hdx))) Dps.nil⟩, q⟩
end
end PD
/-! PD15: try .. except X as e. -/
namespace PD
open PySem PySem.Spec PyProof.Rows L2
/-- a judgement in all contexts of a try's body, whose exceptions are wished by W' -/
def inTr (Γ : Ct) (W' : XD) (J : Ct → Prop) : Prop := ∀ (F : Hp) (μ : Mu) (H : Hp) (pn : List (Addr × Obj)) (xe : Value → Shared → Prop) (tk : Takes (Γ.X.tr pn xe) (WofD Γ.X.K F μ H W')) (po : PassesOwn (model Γ.X.prog Γ.X.w) Γ.X.A Γ.X.env xe), J ⟨Γ.X.tr pn xe, F, μ, H, W', false, tk, po⟩
theorem takes_no {X : Cx} {K : PySem.W.Frag} {F : Hp} {μ : Mu} {H : Hp} : Takes X (WofD K F μ H fun _ _ _ _ _ => False) := fun u s' x => by
  obtain ⟨_, _, _, _, _, _, _, _, _, _, _, _, _, _, _, _, _, _, _, _, _, _, _, _, _, z⟩ := x
  exact z.elim
/-- the context of an except suite -/
@[reducible] def Ct.suite (Γ : Ct) (a : Addr) (oe : Obj) (pn : List (Addr × Obj)) (F : Hp) (μ : Mu) (H : Hp) : Ct := ⟨Γ.X.suite a ((a, oe) :: pn), F, μ, H, fun _ _ _ _ _ => False, false, takes_no, PassesOwn.never⟩
/-- what a suite knows of the exception that it holds -/
structure Held (K : PySem.W.Frag) (F : Hp) (cls : Value) (d : Option Addr) (oe : Obj) (ns : List Str) (xs : List D) : Prop where
  z : Zc cls d oe
  f : ∃ vs, oe.data = .fields vs
  x : XdOk K F d ns xs
def inSuite (Γ : Ct) (cls : Value) (ns : List Str) (xs : List D) (J : Ct → Addr → Prop) : Prop := ∀ (a : Addr) (oe : Obj) (d : Option Addr) (pn : List (Addr × Obj)) (F : Hp) (μ : Mu) (H : Hp), Held Γ.X.K F cls d oe ns xs → J (Γ.suite a oe pn F μ H) a
section
variable {Γ : Ct} {δ : Dl} {μ : Mu} {E : En} {x n : Str} {c : Value} {i : Nat} {body suite : List Stmt} {b₀ : Stmt} {np pos pos' : Pos}
/-- what is wished of an exception of the body -/
def WasD (Γ : Ct) (c : Value) (i : Nat) (suite : List Stmt) (E : En) : XD := fun cls ns xs δ' μ' => ∃ b, PySem.W.exmOne Γ.X.K cls c = some b ∧
  (b = true → inSuite Γ cls ns xs fun Γs a => sds Γs suite (δ'.set i (some (.ref a))) μ' { nx := fun δ2 μ2 => E.nx (δ2.set i none) μ2, rt := E.rt, bk := fun δ2 μ2 => E.bk (δ2.set i none) μ2, ct := fun δ2 μ2 => E.ct (δ2.set i none) μ2 }) ∧
  (b = false → Γ.W cls ns xs δ' μ')
theorem sd_try_as (hs : Γ.X.stack = Γ.X.env :: Γ.X.outer) (hf : Γ.X.env.frame = some Γ.X.env.locals) (hN : Γ.X.N.Nodup) (hi : Γ.X.N[i]? = some n) (hln : Γ.X.env.kindOf n = some .local) (hc : Names Γ.X x c)
    (h : inTr Γ (WasD Γ c i (b₀ :: suite) E) fun Γ' => sds Γ' body δ μ E) (hnn : Γ.nn = false := by rfl) : sd Γ (.Try body [.ExceptHandler (some (.Name x np)) (some n) (b₀ :: suite) pos'] [] [] pos) δ μ E := fun F σ H a => by
  let tb : WX → TS := fun W D σ H => ∀ (pn : List (Addr × Obj)) (xe : Value → Shared → Prop), Takes (Γ.X.tr pn xe) W → PassesOwn (model Γ.X.prog Γ.X.w) Γ.X.A Γ.X.env xe → wss (Γ.X.tr pn xe) body D σ H
  let ts : Addr → Value → Option Addr → TS := fun a cls d D σ H => ∀ (oe : Obj) (pn : List (Addr × Obj)), Zc cls d oe → (∃ vs, oe.data = .fields vs) → wss (Γ.X.suite a ((a, oe) :: pn)) (b₀ :: suite) D σ H
  refine ws_of (ps_try_as (tb := tb) (ts := ts) (c := c) (Wout := WofD Γ.X.K Γ.F0 Γ.μ0 Γ.H0 Γ.W) hs hf hN hi hln hc (Γ.tk.all hnn) (fun W pn xe tk po => ⟨fun pins s σ H D I z => z pn xe tk po pins s I⟩) (fun a' oe cls d pn hz hd => ⟨fun pins s σ H D I z => z oe pn hz hd pins s I⟩)) ?_
  intro pn xe tk po
  have tk' : Takes (Γ.X.tr pn xe) (WofD Γ.X.K F μ H (WasD Γ c i (b₀ :: suite) E)) := tk.imp fun cls d σ' H' w => by
    obtain ⟨F', μ', δ', ns, xs, st, sx, fr, xo, b, hb, h1, h2⟩ := w
    refine ⟨b, hb, fun e a' ha' oe pn' hz hd => ?_, fun e => ⟨F', μ', δ', ns, xs, a.st.trans st, sx, fr, xo, h2 e⟩⟩
    have z := h1 e a' oe d pn' F' μ' H' ⟨hz, hd, xo⟩ F' (σ'.set i (some (.ref a'))) H' ⟨Step.refl _ _ _, sx, fr.set i dpr⟩
    have back : ∀ {Q : Dl → Mu → Prop} {σ2 H2}, PostN (Γ.suite a' oe pn' F' μ' H') F' (fun δ2 μ2 => Q (δ2.set i none) μ2) σ2 H2 → PostN Γ F Q (σ2.set i none) H2 := fun {Q σ2 H2} z => by
      obtain ⟨F2, δ2, μ2, s2, a2, q⟩ := z
      exact ⟨F2, δ2.set i none, μ2, st.ext.trans s2, ⟨(a.st.trans st).trans a2.st, a2.sx, a2.fr.unset i _⟩, q⟩
    refine wss_mono z ⟨fun σ2 H2 q => back q, fun v H2 q => ?_, fun σ2 H2 q => back q, fun σ2 H2 q => back q⟩
    obtain ⟨F2, d2, μ2, s2, st2, sx2, rd, q⟩ := q
    exact ⟨F2, d2, μ2, st.ext.trans s2, (a.st.trans st).trans st2, sx2, rd, q⟩
  have z := h F μ H pn xe tk' po F σ H ⟨Step.refl _ _ _, a.sx, a.fr⟩
  have up : ∀ {Q : Dl → Mu → Prop} {σ2 H2}, PostN ⟨Γ.X.tr pn xe, F, μ, H, WasD Γ c i (b₀ :: suite) E, false, tk', po⟩ F Q σ2 H2 → PostN Γ F Q σ2 H2 := fun {Q σ2 H2} z => by
    obtain ⟨F2, δ2, μ2, s2, a2, q⟩ := z
    exact ⟨F2, δ2, μ2, s2, ⟨a.st.trans a2.st, a2.sx, a2.fr⟩, q⟩
  refine wss_mono z ⟨fun σ2 H2 q => up q, fun v H2 q => ?_, fun σ2 H2 q => up q, fun σ2 H2 q => up q⟩
  obtain ⟨F2, d2, μ2, s2, st2, sx2, rd, q⟩ := q
  exact ⟨F2, d2, μ2, s2, a.st.trans st2, sx2, rd, q⟩
end
end PD
/-! PD16: what a suite asks of its exception. -/
namespace PD
open PySem PySem.Spec PyProof.Rows L2
section
variable {Γ : Ct} {a : Addr} {oe : Obj} {d : Option Addr} {pn : List (Addr × Obj)} {F0 : Hp} {μ0 : Mu} {H0 : Hp} {C : Addr} {ns : List Str} {xs : List D} {δ : Dl} {μ : Mu} {Q : D → Mu → Prop} {e : Expr} {n : Str} {pos : Pos}
theorem ed_xf {d' : D} (hd : Held Γ.X.K F0 (.ref C) d oe ns xs) (T : XfC Γ.X.K C) (hno : PySem.W.findIn Γ.X.K (.ref C) n = some none) (hl : (ns.zip xs).lookup n = some d') (h : ed (Γ.suite a oe pn F0 μ0 H0) e δ μ fun x μ1 => x = .ref a ∧ Q d' μ1)
    (hb : attributeBase e n Γ.X.env (eval e Γ.X.env) = eval e Γ.X.env := by rfl) : ed (Γ.suite a oe pn F0 μ0 H0) (.Attribute e n pos) δ μ Q := fun F σ H at_ =>
  we_of (pe_xf T hno hd.z hd.f pe_we hb) (we_mono (h F σ H at_) fun v H1 ⟨F1, x, μ1, s1, a1, r1, ex, q⟩ => by
    subst ex
    rcases hd.x with ⟨_, rfl, rfl⟩ | ⟨dd, gs, rfl, h1, h2, h3⟩
    · cases hl
    · subst h2
      obtain ⟨u, hu, ru⟩ := lookup_zip h3 hl
      exact ⟨dpR r1, rfl, dd, gs, u, rfl, a1.sx.sub _ _ (a1.st.ext _ _ h1), hu, F1, d', μ1, s1, a1, ru.mono a1.st.ext, q⟩)
end
end PD
/-! PD17: the class of an exception that keeps things. -/
namespace PD
open PySem PySem.Spec PySem.Calls PyProof.Rows L2
section
variable {prog : Program} {w : World} {A : Around} {E : Value → Shared → Prop} {s : Shared} {K : PySem.W.Frag} {x D : Addr} {ox o : Obj}
/-- e.__class__ of such an exception -/
theorem exc_class {Q : Option Value → Shared → Prop} (T : ExcC K D) (X : K.In s.heap) (I : PySem.W.InstAt s.heap x ox D (some o)) (h : Q (some (.ref D)) { s with toks := s.toks + 1 }) : wpAny (model prog w) A (getAttr? (.ref x) "__class__") Q E s := by
  obtain ⟨hp, g, d, t, os⟩ := s
  have F : PySem.W.findObj K D (some o) "__class__" = some (.bind (.builtin "getset_descriptor.__get__") (.builtin "object.__class__")) := PySem.W.findObj_data (by obtain ⟨cd, hc, _⟩ := PySem.W.any_some T.hd; rw [hc]; rfl) T.ha T.hn T.ht
  have ty := I.type (M := model prog w)
  have own := PySem.W.looks_findIn (M := model prog w) X T.hg
  have hook := PySem.W.looks_findIn (M := model prog w) X T.hk
  have there := PySem.W.looks_find (M := model prog w) X I F
  have base : PySem.W.Looks (model prog w) hp (isInstance (.ref x) (.type "BaseException")) true := ty.andThen (PySem.W.looks_subIn X T.hs)
  have n1 : (onTheHeap (Value.ref D) && Value.builtin "BaseException.__getattribute__" == Value.builtin "object.__getattribute__") = false := by
    rw [show (Value.builtin "BaseException.__getattribute__" == Value.builtin "object.__getattribute__") = false by decide +kernel]; rfl
  have n0 : (false && onTheHeap (Value.builtin "BaseException.__getattribute__")) = false := rfl
  unfold getAttr? getAttrBy? getAttrBy
  refine wpAny_bind (wpAny_mkText (wpAny_bind (wpAny_attempt (wpAny_holding (wpAny_bind (ty.at (wpAny_bind (own.at ?_))))))))
  show wpAny _ _ (ite ((onTheHeap (Value.ref D) && Value.builtin "BaseException.__getattribute__" == Value.builtin "object.__getattribute__") = true) _ _) _ _ _
  rw [n1, if_neg Bool.false_ne_true]; unfold getAttrByItsOwn hookBefore
  refine wpAny_bind ?_
  rw [if_pos (show onTheHeap (Value.ref D) = true from rfl)]; refine hook.at (wpAny_bind (wpAny_attempt (wpAny_holding ?_)))
  unfold callGetattribute; rw [n0, if_neg Bool.false_ne_true]
  unfold boundAndCalled; rw [PySem.F.excAttr_ValueError.ga.bind (.ref x)]
  refine wpAny_bind (wpAny_pure ?_)
  show wpAny _ _ (call (.builtin "BaseException.__getattribute__") [.ref x, .str "__class__" t]) _ _ _
  refine wpAny_call (codeAny_call_builtin PySem.F.excAttr_ValueError.ga.plain PySem.F.entry_bexc_ga (@PySem.W.check_slot (model prog w) _ _ ⟨hp, g, d, t + 1, os⟩ "BaseException.__getattribute__" "BaseException" "__getattribute__" (.ref x) [.str "__class__" t] [] _ (by decide +kernel) (by decide +kernel) base (PySem.F.args_bexc_ga (.ref x) (.str "__class__" t)) ?_))
  unfold Builtin.«object.__getattribute__»
  refine wpAny_bind (wpAny_of_eq (a := ((Value.ref x : Value), [Value.str "__class__" t])) (by first | rfl | (simp only [slotArgs]; rfl)) (wpAny_bind (wpAny_pure (wpAny_bind (ty.at (wpAny_bind (there.at ?_)))))))
  show wpAny _ _ (holding [Value.builtin "object.__class__"] (call (.builtin "getset_descriptor.__get__") [.builtin "object.__class__", .ref x, .ref D]) >>= ret) _ _ _
  refine wpAny_bind (wpAny_holding (wpAny_call (PySem.W.class_get (s := ⟨hp, g, d, t + 1, os⟩) (ox := ox) (od := some o) X I T.hm (wpAny_pure ?_))))
  show wpAny _ _ (handedOut (.ref D)) _ _ _
  rw [PySem.W.handedOut_of (v := .ref D) rfl]
  first | exact wpAny_pure (wpAny_pure h) | exact wpAny_pure h | exact wpAny_pure (wpAny_bind (wpAny_pure (wpAny_pure h)))
theorem kitx_excD (T : ExcC K D) : PySem.W.KitX K (.ref x) (.ref D) (fun h => PySem.W.InstAt h x ox D (some o)) :=
  let Z := PySem.W.handS_kitx_exc (x := x) (ox := ox) T.hg T.hk T.hs T.hd T.ha T.hn T.ht T.hm
  { ty := fun _ _ _ I => I.type, it := fun M h X I => by
      obtain ⟨cdD, hcD, _⟩ := PySem.W.any_some T.hd
      unfold PySem.W.clsIn at hcD
      split at hcD
      · next ho =>
        intro A' Q' E' s' k q
        unfold isType loadHead
        exact wpAny_bind (wpAny_loadPart (k _ _ (X _ _ ho)) (wpAny_pure q))
      · cases hcD
    ne := Z.ne, ca := fun X I k => exc_class T X I k }
end
section
variable {X : Cx} {a dd D : Addr} {oe : Obj} {pn : List (Addr × Obj)}
theorem exc_inst {pins : List (Addr × Obj)} {σ : L2.St} {H : Hp} {s : Shared} {fs : List (Str × V)} (hz : Zc (.ref D) (some dd) oe) (hf : ∃ vs, oe.data = .fields vs) (I : Inv (X.suite a ((a, oe) :: pn)) pins σ H s) (hd : H dd = some (.xd fs)) : ∃ od, PySem.W.InstAt s.heap a oe D (some od) := by
  obtain ⟨ha, _⟩ := I.pin (a, oe) (List.mem_append_left _ List.mem_cons_self)
  obtain ⟨vs, hv⟩ := hf
  obtain ⟨mA, hns, hr⟩ := (show ObjOk X.prog X.w H s.heap dd (.xd fs) from I.hok dd _ hd)
  obtain ⟨od, ho, hl⟩ := lookIn_ns hns
  exact ⟨od, ha, hz.1, by unfold PySem.W.notCls; rw [hv] <;> rfl, by rw [hz.2]; exact ho⟩
/-- isinstance(e, c), isinstance(e, (c, ..)) of a held exception with fields -/
theorem call_isX (T : ExcC X.K D) (hz : Zc (.ref D) (some dd) oe) (hf : ∃ vs, oe.data = .fields vs) : CallR (X.suite a ((a, oe) :: pn)) (.builtin "isinstance") (fun xs H Q => ∃ (c : V) (u : Value) (b : Bool) (fs : List (Str × V)), xs = [.ref a, c] ∧ H dd = some (.xd fs) ∧ ClsV c u ∧ PySem.W.kitOne X.K (.ref D) u = some b ∧ Q (.bl b) H) := fun pins s σ H xs us Q I r h => by
  obtain ⟨c, u, b, fs, rfl, hd, k, e, q⟩ := h
  obtain ⟨u1, u2, rfl, r1, r2⟩ := vals2 r
  obtain rfl : u1 = Value.ref a := r1
  obtain rfl := k.eq r2
  obtain ⟨od, J⟩ := exc_inst hz hf I hd
  exact PySem.W.kia_one (kitx_excD T) I.kIn J e (fun z => nomatch z) fun tk => ⟨.bl b, H, I.tok tk, rfl, q⟩
end
section
variable {Γ : Ct} {a dd : Addr} {oe : Obj} {pn : List (Addr × Obj)} {F0 : Hp} {μ0 : Mu} {H0 : Hp} {C : Addr} {ns : List Str} {xs : List D} {δ : Dl} {μ : Mu} {Q : D → Mu → Prop}
theorem held_xd {K : PySem.W.Frag} {F : Hp} {cls : Value} (hd : Held K F cls (some dd) oe ns xs) : ∃ fs, F dd = some (.xd fs) := by
  rcases hd.x with ⟨h, _⟩ | ⟨d', gs, h, h1, _⟩
  · cases h
  · cases h; exact ⟨gs, h1⟩
theorem cld_isX {c : D} {u : Value} {b : Bool} (hd : Held Γ.X.K F0 (.ref C) (some dd) oe ns xs) (T : ExcC Γ.X.K C) (hc : clsD c = some u) (hk : PySem.W.kitOne Γ.X.K (.ref C) u = some b) (q : Q (.bl b) μ) : cld (Γ.suite a oe pn F0 μ0 H0) (.builtin "isinstance") [.ref a, c] δ μ Q := cld_of (call_isX T hd.z hd.f) fun F σ H vs at_ r0 => by
  obtain ⟨v, ws, rfl, r1, r2⟩ := r0.uncons
  obtain ⟨w, zs, rfl, r3, r4⟩ := r2.uncons
  obtain ⟨fs, hx⟩ := held_xd hd
  rw [r4.unnil, dpR r1]
  exact ⟨w, u, b, fs, rfl, at_.sx.sub _ _ (at_.st.ext _ _ hx), clsD_run hc r3, hk, PostE.here at_ dpb q⟩
end
end PD
/-! PD18: what the top tells of own exception classes, by looking. -/
namespace PD
open PySem PySem.Spec PyProof.Rows L2
def excCB (K : PySem.W.Frag) (C : Addr) : Bool := He.eqO (PySem.W.findIn K (.ref C) "__getattribute__") (some (some (.builtin "BaseException.__getattribute__"))) && (He.eqO (PySem.W.findIn K (.ref C) "__getattr__") (some none) && (decide (PySem.W.subIn K (.ref C) (.type "BaseException") = some true) && (PySem.W.hasDictIn K C && (He.eqO (PySem.W.findIn K (.ref C) "__class__") (some (some (.builtin "object.__class__"))) && (He.eqO (PySem.W.specialIn K (.builtin "object.__class__") "__get__") (some (some (.builtin "getset_descriptor.__get__"))) && (decide (PySem.W.takesIn K (.builtin "object.__class__") = some true) && decide (PySem.W.mroIn K C (.type "object") = some true)))))))
theorem excCB_ok {K : PySem.W.Frag} {C : Addr} (h : excCB K C = true) : ExcC K C := by
  obtain ⟨h1, h⟩ := Bool.and_eq_true_iff.mp h
  obtain ⟨h2, h⟩ := Bool.and_eq_true_iff.mp h
  obtain ⟨h3, h⟩ := Bool.and_eq_true_iff.mp h
  obtain ⟨h4, h⟩ := Bool.and_eq_true_iff.mp h
  obtain ⟨h5, h⟩ := Bool.and_eq_true_iff.mp h
  obtain ⟨h6, h⟩ := Bool.and_eq_true_iff.mp h
  obtain ⟨h7, h8⟩ := Bool.and_eq_true_iff.mp h
  exact ⟨He.eqO_ok h1, He.eqO_ok h2, of_decide_eq_true h3, h4, He.eqO_ok h5, He.eqO_ok h6, of_decide_eq_true h7, of_decide_eq_true h8⟩
/-- an own class over any built-in base -/
def oexgLook (newId : String) (tl : List Value) (K : PySem.W.Frag) (C : Addr) : Bool := match K.lookup C with
  | some ⟨.type "type", _, .cls cd, sl⟩ => (match cd.mro, sl.toList with
    | .ref c :: bm, [_, _, _, _, some (.builtin n), _] => decide (c = C) && (decide (n = newId) && (PySem.W.excTail tl bm && (cd.hasDict && !cd.hasDel)))
    | _, _ => false)
  | _ => false
theorem oexgLook_ok {newId : String} {tl : List Value} {K : PySem.W.Frag} {C : Addr} (h : oexgLook newId tl K C = true) : ∃ nm q N bs bm sn sub ab col dd k0 k1 k2 k3 k5, K.lookup C = some (excClassObj nm q C N bs bm true sn sub ab col dd k0 k1 k2 k3 k5 newId) ∧ PySem.W.excTail tl bm = true := by
  unfold oexgLook at h
  split at h
  · next dd cd sl look =>
    split at h
    · next c bm k0 k1 k2 k3 n k5 em es =>
      obtain ⟨e1, h⟩ := Bool.and_eq_true_iff.mp h
      obtain ⟨e2, h⟩ := Bool.and_eq_true_iff.mp h
      obtain ⟨e3, h⟩ := Bool.and_eq_true_iff.mp h
      obtain ⟨e4, e5⟩ := Bool.and_eq_true_iff.mp h
      have f1 := of_decide_eq_true e1
      have f2 := of_decide_eq_true e2
      have f5 : cd.hasDel = false := by simpa using e5
      clear e5 h
      obtain ⟨nm, bs, mro, ns, qn, hd, sn, sub, ab, col, del⟩ := cd
      obtain ⟨l⟩ := sl
      dsimp only at em es e4 f5
      subst em es e4 f5 f1 f2
      exact ⟨nm, qn, ns, bs, bm, sn, sub, ab, col, dd, k0, k1, k2, k3, k5, look, e3⟩
    · cases h
  · cases h
def oexgB (newId : String) (tl : List Value) (K : PySem.W.Frag) (C : Addr) : Bool := oexgLook newId tl K C && (He.eqO (PySem.W.findIn K (.ref C) "__setattr__") (some (some (.builtin "object.__setattr__"))) && (decide (PySem.W.subIn K (.ref C) (.type "BaseException") = some true) && (decide (PySem.W.typeIn K (.ref C) = some (.type "type")) && PySem.W.keepIn K (.ref C))))
theorem oexgB_ok {newId : String} {tl : List Value} {K : PySem.W.Frag} {C : Addr} (h : oexgB newId tl K C = true) : OexG newId tl K C := by
  obtain ⟨h1, h⟩ := Bool.and_eq_true_iff.mp h
  obtain ⟨h2, h⟩ := Bool.and_eq_true_iff.mp h
  obtain ⟨h3, h⟩ := Bool.and_eq_true_iff.mp h
  obtain ⟨h4, h5⟩ := Bool.and_eq_true_iff.mp h
  exact ⟨oexgLook_ok h1, He.eqO_ok h2, of_decide_eq_true h3, of_decide_eq_true h4, h5⟩
abbrev tlVE : List Value := [.type "ValueError", .type "Exception", .type "BaseException", .type "object"]
abbrev tlIE : List Value := [.type "IndexError", .type "LookupError", .type "Exception", .type "BaseException", .type "object"]
theorem basVE : Bas "ValueError" "ValueError.__new__" "ValueError.__init__" tlVE := ⟨PySem.F.excBase_ValueError, PySem.F.store_ValueError⟩
theorem basIE : Bas "IndexError" "IndexError.__new__" "IndexError.__init__" tlIE := ⟨PySem.F.excBase_IndexError, PySem.F.store_IndexError⟩
theorem xfC_of {K : PySem.W.Frag} {C : Addr} (T : ExcC K C) : XfC K C := ⟨T.hg, T.hk, T.hs, T.hd⟩
end PD
/-! PD19: any plain value. -/
namespace PD
open PySem PySem.Spec PyProof.Rows L2
/-- the built-in class of a datum that is no instance -/
def tyN : D → Option String
  | .non => some "NoneType"
  | .bl _ => some "bool"
  | .int _ => some "int"
  | .str _ => some "str"
  | .lst _ | .rl _ => some "list"
  | .tup _ => some "tuple"
  | .dK _ _ => some "dict"
  | _ => none
theorem tyQ_of {K : PySem.W.Frag} {μ : Mu} {x : D} {a : String} (h : tyN x = some a) : TyQ K μ x (.type a) := by
  cases x <;> cases h
  · exact .non
  · exact .bl _
  · exact .int _
  · exact .str _
  · exact .lst _
  · exact .rl _
  · exact .tup _
  · exact .dK _ _
/-- whether a plain value is of these classes -/
def isStrD : D → Bool | .str _ => true | _ => false
def isSeqD : D → Bool | .lst _ | .rl _ | .tup _ => true | _ => false
def isBlD : D → Bool | .bl _ => true | _ => false
section
variable {Γ : Ct} {δ : Dl} {μ : Mu} {Q : D → Mu → Prop} {x : D}
theorem cld_isStr (h : (tyN x).isSome = true) (q : Q (.bl (isStrD x)) μ) : cld Γ (.builtin "isinstance") [x, .ty "str"] δ μ Q := by
  cases x <;> first
    | exact cld_isi (tyQ_of rfl) rfl (kit_ty kb_NoneType_str) q | exact cld_isi (tyQ_of rfl) rfl (kit_ty kb_bool_str) q | exact cld_isi (tyQ_of rfl) rfl (kit_ty kb_int_str) q | exact cld_isi (tyQ_of rfl) rfl (kit_ty kb_str_str) q
    | exact cld_isi (tyQ_of rfl) rfl (kit_ty kb_list_str) q | exact cld_isi (tyQ_of rfl) rfl (kit_ty kb_tuple_str) q | exact cld_isi (tyQ_of rfl) rfl (kit_ty kb_dict_str) q | cases h
theorem cld_isBl (h : (tyN x).isSome = true) (q : Q (.bl (isBlD x)) μ) : cld Γ (.builtin "isinstance") [x, .ty "bool"] δ μ Q := by
  cases x <;> first
    | exact cld_isi (tyQ_of rfl) rfl (kit_ty kb_NoneType_bool) q | exact cld_isi (tyQ_of rfl) rfl (kit_ty kb_bool_bool) q | exact cld_isi (tyQ_of rfl) rfl (kit_ty kb_int_bool) q | exact cld_isi (tyQ_of rfl) rfl (kit_ty kb_str_bool) q
    | exact cld_isi (tyQ_of rfl) rfl (kit_ty kb_list_bool) q | exact cld_isi (tyQ_of rfl) rfl (kit_ty kb_tuple_bool) q | exact cld_isi (tyQ_of rfl) rfl (kit_ty kb_dict_bool) q | cases h
theorem cld_isSeq (h : (tyN x).isSome = true) (q : Q (.bl (isSeqD x)) μ) : cld Γ (.builtin "isinstance") [x, .tup [.ty "list", .ty "tuple"]] δ μ Q := by
  cases x <;> first
    | exact cld_isiNoSeq (a := "NoneType") (tyQ_of rfl) ka_NoneType q | exact cld_isiNoSeq (a := "bool") (tyQ_of rfl) ka_bool q | exact cld_isiNoSeq (a := "int") (tyQ_of rfl) ka_int q | exact cld_isiNoSeq (a := "str") (tyQ_of rfl) ka_str q
    | exact cld_isiSeq (.lst _) q | exact cld_isiSeq (.rl _) q | exact cld_isiSeq (.tup _) q | exact cld_isiNoSeq (a := "dict") (tyQ_of rfl) ka_dict q | cases h
end
end PD
/-! PD20: tests that are known. -/
namespace PD
theorem iteTr {b : Bool} {A B : Prop} (e : b = true) (h : A) : if b = true then A else B := by rw [if_pos e]; exact h
theorem iteFr {b : Bool} {A B : Prop} (e : b = false) (h : B) : if b = true then A else B := by subst e; exact h
open PySem PySem.Spec PyProof.Rows L2
theorem cutD_to {xs : List D} {r : Int} (h0 : 0 ≤ r) (h1 : r ≤ xs.length) : cutD xs none (some r) = xs.take r.toNat := by
  unfold cutD HT.sIx
  simp only [List.drop_zero, Nat.sub_zero]
  rw [if_neg (by omega), Nat.min_eq_left (by omega)]
theorem cutD_from {xs : List D} {r : Int} (h0 : 0 ≤ r) (h1 : r ≤ xs.length) : cutD xs (some r) none = xs.drop r.toNat := by
  unfold cutD HT.sIx
  simp only
  rw [if_neg (by omega), Nat.min_eq_left (by omega)]
  exact List.take_of_length_le (by rw [List.length_drop]; omega)
end PD
/-! PD21: classmethods, cls(..), try that never raises, split, index, comprehensions by place. -/
namespace PD
open PySem PySem.Spec PyProof.Rows L2 ClX
/-! ### a classmethod called on its class -/
section
variable {X : Cx} {b' : Md} {k : Nat} {C p g : Addr} {mc : Value} {fd : FuncData} {ps : List Str} {sp : Sp} {dvs : List V} {dus : List Value} {E : L2.St → XK} {o e : Expr} {es : List Expr} {m : Str} {pos apos : Pos} {ta : TE} {t : TA} {pl : Sem Bool}
theorem run_cmS {pins : List (Addr × Obj)} {σ : L2.St} {H : Hp} {s : Shared} {q : Addr} {Q : VK} {us : List Value} {vs : List V} (F : FnOk X.prog X.w X.K X.mg X.base b' k g fd ps sp) (hr : Room k X.A) (hb : Binds X.K fd ps dus) (hd : Vals dvs dus) (hx : PassesAt (CXB b' X.prog X.w) X σ (E σ)) (I : Inv X ((q, PySem.W.methodObj (.ref g) (.ref C)) :: pins) σ H s)
    (r : Vals vs us) (h : sp (.ref C :: (vs ++ dvs)) H Q (E σ)) : wpAny (model X.prog X.w) X.A (call (.ref q) us) (EP X pins σ Q) X.xe s := by
  have z : wpAny (model X.prog X.w) X.A (call (.ref q) us) (EP X ((q, PySem.W.methodObj (.ref g) (.ref C)) :: pins) σ Q) X.xe s :=
    wpAny_call (PySem.W.method_call (pin_at I) (by
      have r1 : Vals (V.ref C :: vs) (Value.ref C :: us) := .cons rfl r
      have r2 : Vals (V.ref C :: vs ++ dvs) (Value.ref C :: us ++ dus) := r1.append hd
      have hl : (Value.ref C :: us ++ dus).length = ps.length := by rw [← r2.length]; exact F.len _ _ _ _ h
      refine codeAny_mono (F.run X.A X.stack s H ⟨Value.ref C :: us, []⟩ (Value.ref C :: us ++ dus) (V.ref C :: vs ++ dvs) Q (E σ) hr I.env0 (hb s (Value.ref C :: us) I.kIn hl) r2 h) fun r s' hq => ?_
      cases r with
      | error e => exact hx _ H s e s' I hq
      | ok fl =>
        cases fl with
        | ret u => exact I.after hq
        | next => exact False.elim hq
        | brk => exact False.elim hq
        | cont => exact False.elim hq))
  exact thn z fun _ _ y => unpinE y
theorem pe_cmethS (he : PE X o ta) (r : CRead X.K C mc) (c : CMet X.K C mc m p g) (F : FnOk X.prog X.w X.K X.mg X.base b' k g fd ps sp) (hr : Room k X.A) (hb : Binds X.K fd ps dus) (hd : Vals dvs dus) (hx : ∀ σ, PassesAt (CXB b' X.prog X.w) X σ (E σ)) (ha : PA X (e :: es) t)
    (hst : starEach (e :: es) X.env = (false, eval e X.env) :: starEach es X.env := by rfl) (hpl : (backTo pos (starEach es X.env)).any (·.1) = false := by rfl)
    (ht : eval (.Call (.Attribute o m apos) (e :: es) [] pos) X.env = (do
      let ov ← eval o X.env
      standAt apos.atName
      let (f, first) ← holding [ov] (getMethod ov m pl)
      callWith pos f first (backTo pos (starEach (e :: es) X.env)) (backToKw pos (keywordEach [] X.env))) := by rfl) :
    PE X (.Call (.Attribute o m apos) (e :: es) [] pos) (fun σ H Q => ta σ H fun x H1 => x = .ref C ∧ t σ H1 fun vs H2 => sp (.ref C :: (vs ++ dvs)) H2 Q (E σ)) := by
  refine ⟨fun pins s σ H Q I h => ?_⟩
  refine PySem.W.methodCall_KW (pl := pl) (thn (he.run pins s σ H _ I h) fun u s1 ⟨x, H1, I1, rx, ex, q⟩ => ?_) ht
  subst ex
  obtain rfl : u = Value.ref C := rx
  refine getmethcm_ok I1 r c fun s2 I2 => ?_
  refine callwith_cm I2 (base_none I1 (Nat.le_refl _)) c.fi (thn (ha.run pos _ s2 σ H1 _ I2 q) fun us s3 ⟨vs, H2, I3, rv, q2⟩ => ⟨⟨pin_at I3, I3.kIn⟩, ?_⟩) hst hpl
  exact run_cmS F hr hb hd (hx σ) I3 rv q2
end
/-- what a class and its classmethod must have -/
structure CmD (K : PySem.W.Frag) (C : Addr) (m : Str) (g : Addr) : Prop where
  ex : ∃ mc p, CRead K C mc ∧ CMet K C mc m p g
section
variable {Γ : Ct} {δ : Dl} {μ : Mu} {Q : D → Mu → Prop} {E : En} {pos : Pos} {k j n : Nat} {f C g : Addr} {sp : SpD} {dds : List D} {x m : Str} {p apos : Pos} {e o : Expr} {es : List Expr}
/-- C.m(e, ..) -/
theorem ed_cmC {pl : Sem Bool} (c : CmD Γ.X.K C m g) (Cd : CallX Γ.nn Γ.X.prog Γ.X.w Γ.X.K Γ.X.mg Γ.X.base k g n dds sp) (hr : Room j Γ.X.A) (hkj : k ≤ j)
    (h : ed Γ o δ μ fun x μ1 => x = .ref C ∧ ea Γ (e :: es) δ μ1 fun ds μ2 => (.ref C :: (ds ++ dds)).length = n ∧ sp (.ref C :: (ds ++ dds)) μ2 Q fun cls ns xs μ' => Γ.W cls ns xs δ μ')
    (hst : starEach (e :: es) Γ.X.env = (false, eval e Γ.X.env) :: starEach es Γ.X.env := by rfl) (hpl : (backTo pos (starEach es Γ.X.env)).any (·.1) = false := by rfl)
    (ht : eval (.Call (.Attribute o m apos) (e :: es) [] pos) Γ.X.env = (do
      let ov ← eval o Γ.X.env
      standAt apos.atName
      let (f, first) ← holding [ov] (getMethod ov m pl)
      callWith pos f first (backTo pos (starEach (e :: es) Γ.X.env)) (backToKw pos (keywordEach [] Γ.X.env))) := by rfl) : ed Γ (.Call (.Attribute o m apos) (e :: es) [] pos) δ μ Q := by
  obtain ⟨fd, ps, dvs, dus, hl, b, v, dd, G⟩ := Cd.ex
  obtain ⟨mc, pc, cr, cm⟩ := c.ex
  subst hl
  intro F σ H a
  exact we_of (pe_cmethS (E := fun σ cls dx H' => WofD Γ.X.K Γ.F0 Γ.μ0 Γ.H0 Γ.W cls dx σ H') pe_we cr cm G (hr.mono hkj) b v (fun σ => passAt Γ.tk σ) pa_wa hst hpl ht) (we_mono (h F σ H a) fun v' H1 ⟨F1, x, μ1, s1, a1, r1, ex, q1⟩ => by
    subst ex
    have ev : v' = .ref C := by rw [Dp] at r1; exact r1
    refine ⟨ev, wa_mono (q1 F1 σ H1 a1) fun vs H2 ⟨F2, ds, μ2, s2, a2, r2, hl, q⟩ => ?_⟩
    obtain ⟨F3, μ3, ds2, Qd, Ed, b1, b2, b3, b4, b5, b6⟩ := spOf_at (K := Γ.X.K) (n := ps.length) (sp := sp) rfl a2 (Dps.cons (dpr (a := C)) (r2.append (dd F2))) hl q
    exact ⟨F3, μ3, ds2, Qd, Ed, b1, b2, b3, b4, fun v H' F' μ' d c1 c2 c3 c4 => (b5 v H' F' μ' d c1 c2 c3 c4).up (s1.trans s2), b6⟩)
end
/-! ### a local name that holds a class, called -/
section
variable {X : Cx} {b' : Md} {k i : Nat} {C f : Addr} {fd : FuncData} {ps : List Str} {sp : Sp} {dvs : List V} {dus : List Value} {x : Str} {p pos : Pos} {e : Expr} {es : List Expr}
theorem pe_makeL {Eσ : L2.St → XK} {t : TA} (M : Mk X.K C f) (G : FnOk X.prog X.w X.K X.mg X.base b' k f fd ps sp) (hr : Room (k + 1) X.A) (hN : X.N[i]? = some x) (hv : Vis X.env.scope x) (hb : Binds X.K fd ps dus) (hd : Vals dvs dus) (hx : ∀ σ, PassesAt (CXB b' X.prog X.w) X σ (Eσ σ))
    (ha : PA X (e :: es) t) (hdb : (x == ("__debug__" : Str)) = false) (hcd : (x == ("__classdict__" : Str)) = false) (he : starEach (e :: es) X.env = (false, eval e X.env) :: starEach es X.env) (hpl : (backTo pos (starEach es X.env)).any (·.1) = false) :
    PE X (.Call (.Name x p) (e :: es) [] pos) (fun σ H Q => σ[i]? = some (some (.ref C)) ∧ t σ H fun vs H1 => ∀ a dx, H1 a = none → H1 dx = none → dx ≠ a → sp (.ref a :: (vs ++ dvs)) (upd (upd H1 dx (.own a)) a (.ins C dx [])) (fun v H2 => v = .non ∧ Q (.ref a) H2) (Eσ σ)) where
  run := fun pins s σ H Q I h => by
    obtain ⟨hs, ht⟩ := h
    refine wpAny_Call_Name_kw (thn ((pe_var (pos := p) hN hv hdb hcd).run pins s σ H (fun v H1 => v = .ref C ∧ H1 = H) I ⟨.ref C, hs, rfl, rfl⟩) fun u s1 ⟨v, H1, I1, r1, q1⟩ => ?_)
    obtain ⟨rfl, rfl⟩ := q1
    cases r1
    exact PySem.W.callWith_K (h₀ := X.base) I.ok.mod.kin M.kp (thn (ha.run pos pins s1 σ _ _ I1 ht) fun us s2 ⟨vs, H2, I2, r, q⟩ => ⟨I2.kIn, run_makeS M G hr hb hd (hx σ) I2 r q⟩) he hpl
end
section
variable {Γ : Ct} {δ : Dl} {μ : Mu} {Q : D → Mu → Prop} {pos : Pos} {k j n i : Nat} {f C : Addr} {sp : SpD} {dds : List D} {x : Str} {p apos : Pos} {e : Expr} {es : List Expr} {N : List Str} {sc : Scope}
theorem ed_makeL (nm : Nm N sc i x) (hδ : δ[i]? = some (some (.ref C))) (Md : MakeD Γ.X.prog Γ.X.w Γ.X.K Γ.X.mg Γ.X.base k C n dds sp) (hr : Room j Γ.X.A) (hkj : k + 1 ≤ j) (h : ea Γ (e :: es) δ μ fun ds μ1 => (ds ++ dds).length = n ∧ sp (ds ++ dds) μ1 Q fun cls ns xs μ' => Γ.W cls ns xs δ μ')
    (esc : Γ.X.env.scope = sc := by rfl) (e2 : Γ.X.N = N := by rfl) (he : starEach (e :: es) Γ.X.env = (false, eval e Γ.X.env) :: starEach es Γ.X.env := by rfl) (hpl : (backTo pos (starEach es Γ.X.env)).any (·.1) = false := by rfl) :
    ed Γ (.Call (.Name x p) (e :: es) [] pos) δ μ Q := by
  obtain ⟨f, spI, M, Cd, hI⟩ := Md.ex
  obtain ⟨fd, ps, dvs, dus, hl, b, v, dd, G⟩ := (Cd.at_ Γ.nn).ex
  intro F σ H a
  refine we_of (pe_makeL (i := i) (Eσ := fun σ cls dx H' => WofD Γ.X.K Γ.F0 Γ.μ0 Γ.H0 Γ.W cls dx σ H') M G (hr.mono hkj) (by rw [e2]; exact nm.at_) (nm.vis esc) b v (fun σ => passAt Γ.tk σ) pa_wa nm.dbg nm.cls he hpl) ?_
  obtain ⟨v0, hv0, rv0⟩ := a.var hδ
  refine ⟨by rw [hv0]; rw [Dp] at rv0; rw [rv0], wa_mono (h F σ H a) fun vs H1 ⟨F1, ds, μ1, s1, a1, r1, hn, q⟩ q' dx hq hdx hne => ?_⟩
  have a2 : At Γ F1 δ ((q', Cell.ins C dx [] []) :: μ1) σ (upd (upd H1 dx (.own q')) q' (.ins C dx [])) := (a1.ext (same_upd hdx)).own (by rw [upd_ne (Ne.symm hne)]; exact hq) ⟨[], upd_same, rfl, Dps.nil⟩
  have r2 : Dps Γ.X.K F1 (.ref q' :: (ds ++ dds)) (.ref q' :: (vs ++ dvs)) := Dps.cons dpr (r1.append (dd F1))
  refine ⟨F1, _, _, Frz Q q' C dx, _, a2.sx, r2, by rw [hl, List.length_cons, hn], hI _ _ _ _ q q' dx, fun v H' F' μ' d st sx rd z => ?_, fun cls dx' H' F' μ' ns xs st sx xo z => ⟨F', μ', δ, ns, xs, a2.st.trans st, sx, a2.fr.mono st.ext, xo, z⟩⟩
  obtain ⟨rfl, z⟩ := z
  exact ⟨by rw [Dp] at rd; exact rd, PostE.frz rfl ⟨F', μ', s1.trans st.ext, ⟨a2.st.trans st, sx, a2.fr.mono st.ext⟩, z⟩⟩
end
/-! ### try .. except X: whose body raises nothing -/
section
variable {Γ : Ct} {δ : Dl} {μ : Mu} {E : En} {x : Str} {c : Value} {body suite : List Stmt} {b₀ : Stmt} {np pos pos' : Pos}
theorem sd_try_calm (hs : Γ.X.stack = Γ.X.env :: Γ.X.outer) (hf : Γ.X.env.frame = some Γ.X.env.locals) (hc : Names Γ.X x c)
    (h : inTr Γ (fun _ _ _ _ _ => False) fun Γ' => sds Γ' body δ μ E) (hnn : Γ.nn = false := by rfl) : sd Γ (.Try body [.ExceptHandler (some (.Name x np)) none (b₀ :: suite) pos'] [] [] pos) δ μ E := fun F σ H a => by
  let tb : WX → TS := fun W D σ H => ∀ (pn : List (Addr × Obj)) (xe : Value → Shared → Prop), L2.Takes (Γ.X.tr pn xe) W → PassesOwn (model Γ.X.prog Γ.X.w) Γ.X.A Γ.X.env xe → wss (Γ.X.tr pn xe) body D σ H
  let ts : Addr → Value → Option Addr → TS := fun a cls d D σ H => ∀ (oe : Obj) (pn : List (Addr × Obj)), Zc cls d oe → (∃ vs, oe.data = .fields vs) → wss (Γ.X.suite a ((a, oe) :: pn)) (b₀ :: suite) D σ H
  refine ws_of (ps_try_only (tb := tb) (ts := ts) (c := c) (Wout := WofD Γ.X.K Γ.F0 Γ.μ0 Γ.H0 Γ.W) hs hf hc (Γ.tk.all hnn) (fun W pn xe tk po => ⟨fun pins s σ H D I z => z pn xe tk po pins s I⟩) (fun a' oe cls d pn hz hd => ⟨fun pins s σ H D I z => z oe pn hz hd pins s I⟩)) ?_
  intro pn xe tk po
  have tk' : L2.Takes (Γ.X.tr pn xe) (WofD Γ.X.K F μ H (fun _ _ _ _ _ => False)) := tk.imp fun cls d σ' H' w => by
    obtain ⟨F', μ', δ', ns, xs, st, sx, fr, xo, z⟩ := w
    exact z.elim
  have z := h F μ H pn xe tk' po F σ H ⟨Step.refl _ _ _, a.sx, a.fr⟩
  have up : ∀ {Q : Dl → Mu → Prop} {σ2 H2}, PostN ⟨Γ.X.tr pn xe, F, μ, H, fun _ _ _ _ _ => False, false, tk', po⟩ F Q σ2 H2 → PostN Γ F Q σ2 H2 := fun {Q σ2 H2} z => by
    obtain ⟨F2, δ2, μ2, s2, a2, q⟩ := z
    exact ⟨F2, δ2, μ2, s2, ⟨a.st.trans a2.st, a2.sx, a2.fr⟩, q⟩
  refine wss_mono z ⟨fun σ2 H2 q => up q, fun v H2 q => ?_, fun σ2 H2 q => up q, fun σ2 H2 q => up q⟩
  obtain ⟨F2, d2, μ2, s2, st2, sx2, rd, q⟩ := q
  exact ⟨F2, d2, μ2, s2, a.st.trans st2, sx2, rd, q⟩
end
/-! ### methods of texts and lists of texts -/
section
variable {Γ : Ct} {δ : Dl} {μ : Mu} {Q : D → Mu → Prop}
theorem mtd_split {x z : Str} (hz : (z.length == 0) = false) (hl : x.length + 2 ≤ sizeLine) (q : Q (.lst ((Txt.split x z).map .str)) μ) : mtd Γ "str.split" (.str x) [.str z] δ μ Q := mtd_of mt_split fun F σ H vx vs a r1 r2 => by
  obtain ⟨v, ws, rfl, h2, h3⟩ := r2.uncons
  rw [h3.unnil]
  rw [Dp] at r1 h2
  subst r1 h2
  exact ⟨x, z, rfl, rfl, hz, hl, fun p hp => PostE.new a hp (dpl upd_same Dps.of_strs) q⟩
theorem eqV_str {a b : Str} : eqV (.str a) (.str b) = decide (a = b) := by
  by_cases h : a = b
  · subst h; simp [eqV]
  · simp [eqV, h]
theorem mtd_indexS {ys : List Str} {z : Str} {j : Nat} (hz : ys[j]? = some z) (hno : ∀ m, m < j → ys[m]? ≠ some z) (q : Q (.int (j : Nat)) μ) : mtd Γ "list.index" (.lst (ys.map .str)) [.str z] δ μ Q := mtd_of mt_index fun F σ H vx vs a r1 r2 => by
  obtain ⟨v, ws, rfl, h2, h3⟩ := r2.uncons
  rw [h3.unnil]
  rw [Dp] at h2
  subst h2
  obtain ⟨p, vs, rfl, g1, g2⟩ := dpL r1
  have e := Dps.strs g2
  subst e
  refine ⟨p, ys.map V.str, .str z, j, .str z, rfl, rfl, .inl (.inl (a.sx.sub _ _ g1)), rfl, ?_, by rw [List.getElem?_map, hz]; rfl, by rw [eqV_str]; exact decide_eq_true rfl, fun m z' hm hz' => ?_, PostE.here a (by rw [Dp]) q⟩
  · rw [List.all_map]; exact List.all_eq_true.mpr fun _ _ => rfl
  · rw [List.getElem?_map] at hz'
    cases e : ys[m]? with
    | none => rw [e] at hz'; cases hz'
    | some y =>
      rw [e] at hz'
      cases hz'
      rw [eqV_str]
      exact decide_eq_false fun h => hno m hm (by rw [e, h])
end
/-! ### a comprehension by place -/
section
variable {Γ : Ct} {elt tg iter : Expr} {ifs : List Expr} {scope : Scope} {vs : List Nat} {δ : Dl} {μ : Mu} {Q : List D → Mu → Prop}
theorem lcd_ix (W : Mu → Prop) (out : List D) (h : eid Γ tg iter δ μ fun ds S μ1 => ds.length ≤ 1000000 ∧ out.length = ds.length ∧ W μ1 ∧ (∀ μ', W μ' → S μ') ∧
      (∀ (i : Nat) (d r : D) (μ' : Mu), (ds : List D)[i]? = some d → out[i]? = some r → W μ' → allB Γ scope fun Γb => gv Γb tg d vs (wipeD δ vs) μ' fun δ2 μ2 => allB Γ scope fun Γc => eif Γc ifs δ2 μ2 fun b μ3 => b = true ∧ allB Γ scope fun Γd => ed Γd elt δ2 μ3 fun x μ4 => x = r ∧ W μ4) ∧
      ∀ μ', W μ' → Q out μ') : lcd Γ elt tg iter ifs scope vs δ μ Q := fun F σ H a => wi_mono (h F σ H a) fun J H1 ⟨F1, ds, S, μ1, s1, a1, ok, hz, ho, hW, hS, hb, hq⟩ => by
  refine ⟨F1, ds, S, μ1, s1, a1, ok, hz, fun i acc μ' => acc = out.take i ∧ W μ', ⟨rfl, hW⟩, fun i acc μ' _ z => ⟨hS μ' z.2, by rw [z.1]; exact List.length_take_le _ _⟩, ?_, fun acc μ' z => by
    obtain ⟨rfl, z2⟩ := z
    rw [← ho, List.take_length]; exact hq μ' z2⟩
  rintro i d acc μ' hd ⟨rfl, z3⟩
  have hi : i < out.length := by rw [ho]; exact (List.getElem?_eq_some_iff.mp hd).1
  have hr : out[i]? = some out[i] := List.getElem?_eq_getElem hi
  intro s H C cl fp F0 μ0 H0 F2 σ2 H2 v a2 r2
  refine wg_mono (hb i d _ μ' hd hr z3 s H C cl fp F0 μ0 H0 F2 σ2 H2 v a2 r2) fun σ3 H3 ⟨w3, F3, δ3, μ3, s3, a3, q3⟩ => ⟨w3, F3, δ3, μ3, s3, a3, ?_⟩
  intro s' H' C' cl' fp' F0' μ0' H0'
  have key : ∀ {b : Bool} {μ4 : Mu}, (b = true ∧ allB Γ scope fun Γd => ed Γd elt δ3 μ4 fun x μ5 => x = out[i] ∧ W μ5) →
      if b = true then allB Γ scope fun Γd => ed Γd elt δ3 μ4 fun r μ5 => out.take i ++ [r] = out.take (i + 1) ∧ W μ5 else out.take i = out.take (i + 1) ∧ W μ4 := by
    rintro b μ4 ⟨rfl, z⟩
    intro s2 H2' C2 cl2 fp2 F02 μ02 H02 F5 σ5 H5 a5
    refine we_mono (z s2 H2' C2 cl2 fp2 F02 μ02 H02 F5 σ5 H5 a5) fun v' H6 ⟨F6, r, μ6, s6, a6, r6, q1, q2⟩ => ⟨F6, r, μ6, s6, a6, r6, ?_, q2⟩
    rw [q1, List.take_succ, hr]; rfl
  have q4 := q3 s' H' C' cl' fp' F0' μ0' H0'
  match ifs, q4 with
  | [], q4 => exact key (b := true) (μ4 := μ3) q4
  | [c], q4 => exact fun F5 σ5 H5 a5 => wt_mono (q4 F5 σ5 H5 a5) fun b H6 ⟨F6, μ6, s6, a6, q6⟩ => ⟨F6, μ6, s6, a6, key q6⟩
end
end PD
/-! PD22: what the top has written, with defs behind classmethods and properties. -/
namespace PD
open PySem PySem.Spec PyProof.Rows L2
structure TXP (fa : List He.Fa) (fn : List He.DefD) (fx : List He5.DefA) (ts : List He.Tab) (ex : PySem.W.Frag → Bool) (w : World) (K : PySem.W.Frag) (mg : Str → Option Value) : Prop extends TXW fa fn ts ex w K mg where
  dx : ∀ (i : Nat) (d : He5.DefA), fx[i]? = some d → ∃ fd, FunD K d.name d.qual d.params d.body d.scope (d.dvs K) (d.kws K) (d.at_ K) fd
  cs : ∀ (i : Nat) (x z : Str), fa[i]? = some (He.Fa.str x z) → ∃ t, mg x = some (.str z t)
  ci : ∀ (i : Nat) (x : Str) (z : Int), fa[i]? = some (He.Fa.int x z) → ∃ t, mg x = some (.int z t)
abbrev AlP : Type := (He.AlT × Bool) × List He5.FnW
def sayP (fa : List He.Fa) (fn : List He.DefD) (fx : List He5.DefA) (ts : List He.Tab) (ex : PySem.W.Frag → Bool) (K : PySem.W.Frag) : AlP := ((He.obsT fa fn ts K, ex K && fx.all fun d => d.ok K), fx.map fun d => He5.fnA K (d.at_ K))
def valP (fn : List He.DefD) (fx : List He5.DefA) (ts : List He.Tab) (w : World) : AlP := ((He.valT fn ts w, true), fx.map He5.DefA.val)
theorem txp_of {fa : List He.Fa} {fn : List He.DefD} {fx : List He5.DefA} {ts : List He.Tab} {ex : PySem.W.Frag → Bool} {w : World} {K : PySem.W.Frag} {mg : Str → Option Value} {h : Heap} (X : K.In h) (G : h.Ns mainGlobals mg) (c : sayP fa fn fx ts ex K = valP fn fx ts w) : TXP fa fn fx ts ex w K mg := by
  have e1 : He.SaysT fa fn ts w K := congrArg (fun z : AlP => z.1.1) c
  have e2 : (ex K && fx.all fun d => d.ok K) = true := congrArg (fun z : AlP => z.1.2) c
  have e3 : (fx.map fun d => He5.fnA K (d.at_ K)) = fx.map He5.DefA.val := congrArg (fun z : AlP => z.2) c
  obtain ⟨e4, e5⟩ := Bool.and_eq_true_iff.mp e2
  have S : He.SaysX fa fn ts [] ex w h K := ⟨e1, e4, fun p hp => (List.not_mem_nil hp).elim, fun p hp => (List.not_mem_nil hp).elim, fun p hp => (List.not_mem_nil hp).elim⟩
  refine ⟨txw_of X G S, fun i d hi => ?_, fun i x z hi => He.str_ok X G (S.t.d.facts (List.mem_of_getElem? hi)), fun i x z hi => He.int_ok X G (S.t.d.facts (List.mem_of_getElem? hi))⟩
  have e6 : (fx.map fun d => He5.fnA K (d.at_ K))[i]? = (fx.map He5.DefA.val)[i]? := by rw [e3]
  rw [List.getElem?_map, List.getElem?_map, hi] at e6
  exact He5.DefA.funD (Option.some.inj e6) (List.all_eq_true.mp e5 d (List.mem_of_getElem? hi))
theorem cread_of' {K : PySem.W.Frag} {C : Addr} (h : PySem.W.readsIn K C (.type "type") = true) : ClX.CRead K C (.type "type") := by
  refine ⟨h, ?_⟩
  unfold PySem.W.readsIn at h
  obtain ⟨h, _⟩ := Bool.and_eq_true_iff.mp h
  obtain ⟨h, _⟩ := Bool.and_eq_true_iff.mp h
  obtain ⟨h, h3⟩ := Bool.and_eq_true_iff.mp h
  obtain ⟨_, h2⟩ := Bool.and_eq_true_iff.mp h
  unfold PySem.W.specialIn
  rw [beq_iff_eq.mp h2, Option.bind_some]
  exact beq_iff_eq.mp h3
/-- a class and its classmethod, as a Bool -/
def cmB (K : PySem.W.Frag) (C : Addr) (m : Str) : Bool := PySem.W.readsIn K C (.type "type") && (He5.wrapB K C "classmethod" "classmethod.__get__" m && PySem.W.fnIn K (He5.wf K C "classmethod" m))
theorem cmB_ok {K : PySem.W.Frag} {C : Addr} {m : Str} (h : cmB K C m = true) : CmD K C m (He5.wf K C "classmethod" m) := by
  obtain ⟨h1, h⟩ := Bool.and_eq_true_iff.mp h
  obtain ⟨h2, h3⟩ := Bool.and_eq_true_iff.mp h
  exact ⟨_, _, cread_of' h1, He5.cmet_of h2 h3⟩
theorem atI_zero {α : Type} {x : α} {xs : List α} : atI (x :: xs) 0 = some x := atI_nat (j := 0) rfl
/-! ### cells given up, many at once -/
theorem At.dropL {Γ : Ct} {δ : Dl} {σ : L2.St} {H : Hp} {μb : Mu} : ∀ (μa : Mu) {F : Hp}, At Γ F δ (μa ++ μb) σ H → ∃ F', Same F F' ∧ At Γ F' δ μb σ H
  | [], F, a => ⟨F, Same.refl F, a⟩
  | (p, c) :: μa, F, a => by
    obtain ⟨o, ho⟩ := cell_some (a.sx.cells (p, c) List.mem_cons_self)
    have sF : Same F (upd F p o) := same_upd (a.sx.off (p, c) List.mem_cons_self)
    have a2 : At Γ (upd F p o) δ (μa ++ μb) σ H := At.freeze (μ1 := []) a ho
    obtain ⟨F', s, a3⟩ := At.dropL μa a2
    exact ⟨F', sF.trans s, a3⟩
theorem ed_dropL {Γ : Ct} {e : Expr} {δ : Dl} {μ : Mu} {Q : D → Mu → Prop} (h : ed Γ e δ μ fun d μ' => ∃ μa μb, μ' = μa ++ μb ∧ Q d μb) : ed Γ e δ μ Q := fun F σ H a => by
  refine we_mono (h F σ H a) fun v H' ⟨F', d, μ', s', a', r, μa, μb, e, q⟩ => ?_
  subst e
  obtain ⟨F2, s2, a2⟩ := At.dropL μa a'
  exact ⟨F2, d, μb, s'.trans s2, a2, r.mono s2, q⟩
theorem sds_dropL {Γ : Ct} {rest : List Stmt} {δ : Dl} {E : En} {μa μb : Mu} (h : sds Γ rest δ μb E) : sds Γ rest δ (μa ++ μb) E := fun F σ H a => by
  obtain ⟨F2, s2, a2⟩ := At.dropL μa a
  exact wss_mono (h F2 σ H a2) (En.up s2)
end PD
/-! PD23: enumerate over a tuple; texts walked; numbers in texts; texts and numbers of the top. -/
namespace PySem
open Sem (wp)
set_option maxHeartbeats 1000000 in
theorem meets_enumerate_newT (v : Value) (o : Obj) (H : Heap → Prop) (B : Begins v o H) :
    Meets (Builtin.«enumerate.__new__» ⟨[.type "enumerate", v], []⟩) (fun _ R s => H s.heap ∧
      R (.ok (.ret (.ref (s.heap.push o).objs.size))) { s with heap := (s.heap.push o).push { cls := .type "enumerate", data := .fields #[.none, .bool false, .ref s.heap.objs.size, rawInt 0, .none, .none] } }) :=
  .of_wp fun prog w A R s h => by
    obtain ⟨hp, g, d, tk, os⟩ := s; obtain ⟨h1, h⟩ := h
    have hsub := sub_enumerate
    have q1 : ∀ {A' : Around} {E : Value → Shared → Prop} {Q : Value → Shared → Prop}, Q (.ref hp.objs.size) ⟨hp.push o, g, d, tk, os⟩ → wpAny (model prog w) A' (pyIter v) Q E ⟨hp, g, d, tk, os⟩ :=
      fun q => B.iter prog w _ _ ⟨hp, g, d, tk, os⟩ _ h1 q
    wp_walk using q1
    refine wpAny_stack_any fun st => wpAny_pure ?_
    split
    · rename_i c _ _ _ _ _
      cases (c == Value.type "enumerate")
      · wp_walk using q1
        exact ⟨_, rfl, h⟩
      · wp_walk using q1
        exact ⟨_, rfl, h⟩
    · wp_walk using q1
      exact ⟨_, rfl, h⟩
theorem call_enumerate_tuple {prog : Program} {w : World} {A : Around} {E : Value → Shared → Prop} {s : Shared} {a : Addr} {items : Array Value} {Q : Value → Shared → Prop} (hT : s.heap.IsTuple a items)
    (h : ∀ h', IsEnum h' (s.heap.objs.size + 1) s.heap.objs.size 0 .none → h'.IsTupleIter s.heap.objs.size a 0 → h'.objs.size = s.heap.objs.size + 2 →
      (∀ b o, s.heap.get? b = some o → h'.get? b = some o) → Q (.ref (s.heap.objs.size + 1)) { s with heap := h' }) :
    wpAny (model prog w) A (call (.type "enumerate") [.ref a]) Q E s := by
  refine callType_new F.called_enumerate (by decide) (F.typeCall_enumerate_1 _) (F.newCall_enumerate_1 _) (fun obj => F.args_object_init_2 obj _) F.entry_enumerate_new
    (meets_enumerate_newT _ _ _ (begins_tuple a items)) ⟨hT, ?_⟩
  have hz : (s.heap.push { cls := .type "tuple_iterator", data := .fields #[.ref a, .int 0 0] }).objs.size = s.heap.objs.size + 1 := Heap.size_push ..
  show _ ∧ _
  rw [hz]
  have he : IsEnum ((s.heap.push { cls := .type "tuple_iterator", data := .fields #[.ref a, .int 0 0] }).push { cls := .type "enumerate", data := .fields #[.none, .bool false, .ref s.heap.objs.size, rawInt 0, .none, .none] }) (s.heap.objs.size + 1) s.heap.objs.size 0 .none := by
    have := Heap.get?_push_size (s.heap.push { cls := .type "tuple_iterator", data := .fields #[.ref a, .int 0 0] }) (o := { cls := .type "enumerate", data := .fields #[.none, .bool false, .ref s.heap.objs.size, rawInt 0, .none, .none] }) rfl
    rw [hz] at this; exact this
  refine ⟨⟨_, he, rfl⟩, h _ he ⟨_, Heap.get?_push_of_some _ (Heap.get?_push_size _ rfl), rfl, rfl⟩ (by rw [Heap.size_push, hz]) fun b o x => Heap.get?_push_of_some _ (Heap.get?_push_of_some _ x)⟩
theorem wpAny_pyNext_enumT_end {prog : Program} {w : World} {A : Around} {E : Value → Shared → Prop} {s : Shared} {e it t : Addr} {j : Nat} {items : Array Value} {i : Int} {old : Value} {Q : Option Value → Shared → Prop} (hh : A.handled = none)
    (he : IsEnum s.heap e it i old) (hit : s.heap.IsTupleIter it t j) (ht : s.heap.IsTuple t items) (hj : items.size ≤ j)
    (hQ : ∀ h', Heap.ExtBut it s.heap h' → Q none { s with heap := h' }) : wpAny (model prog w) A (pyNext (.ref e)) Q E s := by
  have hT : s.TypeIs (.ref e) "enumerate" := ⟨_, he, rfl⟩
  unfold pyNext
  refine wpAny_bind (wpAny_attempt (wpAny_callSpecial?_slot (name := Str.ofString "__next__") hT F.slot_enumerate_next
    (wpAny_call_entry F.slot_enumerate_next hT F.entry_enumerate_next ?_ (F.args_enumerate_next_1 _))))
  show wpAny _ _ (field (.ref e) 2 >>= _) _ _ _
  refine wpAny_bind (wpAny_field he rfl (x := .ref it) rfl ?_)
  refine wpAny_bind (wpAny_nextOf_tuple_end (show A.in1.handled = none from hh) hit ht (by simpa using hj) fun h' x he' hx' => ?_)
  obtain ⟨o, ho, hc⟩ := hx'
  refine wpAny_bind (wpAny_isInstance (T := "StopIteration") (b := true) ⟨o, ho, hc⟩ isSubtype_stop ?_)
  exact wpAny_pure (hQ _ he')
end PySem
namespace PD
open PySem PySem.Spec PyProof.Rows L2
/-- the tuple at a, each item in a new pair -/
def Itet (K : PySem.W.Frag) (a : Addr) : It :=
  ⟨fun i H => ∃ (xs : List V) (x : V), SqT K H a xs ∧ xs[i]? = some x, fun i H v H' => ∃ T x, v = .ref T ∧ H T = none ∧ H' = upd H T (.tup [.int (i : Nat), x]) ∧ ∀ xs, SqT K H a xs → xs[i]? = some x, fun i H => ∃ xs : List V, SqT K H a xs ∧ xs.length ≤ i⟩
theorem turn_enumT {P : Program} {w : World} {K : PySem.W.Frag} {elts : List Expr} {kk : Nat} {tpos : Pos} (a e it : Addr) :
    Turn P w K (.Tuple elts kk tpos) (Itet K a) [e, it] e (fun i h => (∃ old, IsEnum h e it ((i : Nat) : Int) old) ∧ h.IsTupleIter it a i ∧ e ≠ it ∧ a ≠ it ∧ a ≠ e) where
  mem := by simp
  obj := fun i h st b hb => by
    obtain ⟨⟨old, he⟩, ⟨o, ho, hc, hd⟩, _⟩ := st
    have e' : b = e ∨ b = it := by simpa using hb
    rcases e' with z | z
    · rw [z]; exact ⟨_, he, fun v q => nomatch q⟩
    · rw [z]; exact ⟨o, ho, fun v q => by rw [hd] at q; cases q⟩
  keep := fun i h h' st k => let ⟨⟨old, he⟩, hi, hne⟩ := st; ⟨⟨old, k e (by simp) _ he⟩, hi.at fun o q => k it (by simp) o q, hne⟩
  item := by
    intro X hP hw hK hc i pins s σ H E I hf st hg
    subst hP hw hK
    obtain ⟨⟨old, he⟩, hit, hne, hai, hae⟩ := st
    obtain ⟨xs, x, hq, hx⟩ := hg
    obtain ⟨its, rv, p, hz⟩ := I.tuple hq
    obtain ⟨u, hu, ru⟩ := rv.get hx
    have p' : s.heap.IsTuple a its.toArray := p
    have hel : e < s.heap.objs.size := Heap.lt_size he
    have hil : it < s.heap.objs.size := by obtain ⟨_, q, _⟩ := hit; exact Heap.lt_size q
    have hlt : i < its.toArray.size := by
      have := (List.getElem?_eq_some_iff.mp hu).1
      simpa using this
    have D := Draws.tuple (prog := X.prog) (w := X.w) (A := X.A.in1) (show X.A.in1.handled = none from I.ok.hd hc) it a hai its.toArray
    refine wpAny_pyNext_enum_itemD D he ⟨hit, p'⟩ hlt hne (by simp [hne, Ne.symm hae]) fun u' h' tk hu' ho hst' hT hsz hk => ?_
    have eu : u' = u := by
      have h1 : its[i]? = some u' := by simpa using hu'
      rw [hu] at h1; exact (Option.some.inj h1).symm
    subst eu
    obtain ⟨hit', _⟩ := hst'
    refine ⟨_, rfl, wpAny_letOwnedTupleGo_enum (s := { s with heap := h', toks := tk + 1 }) ho fun h'' he' sb => ?_⟩
    have hT2 : h''.get? s.heap.objs.size = some { cls := .type "tuple", data := .seq #[.int i tk, u'] } := (sb.2 _ (Nat.ne_of_gt hel)).trans hT
    have new : ObjOk X.prog X.w (upd H s.heap.objs.size (.tup [.int (i : Nat), x])) h'' s.heap.objs.size (.tup [.int (i : Nat), x]) :=
      ⟨by show 2 ≤ sizeLine; decide, [.int i tk, u'], .cons ⟨_, rfl⟩ (.cons ru .nil), ⟨_, hT2, rfl, _, rfl⟩⟩
    have I1 : Inv X pins σ (upd H s.heap.objs.size (.tup [.int (i : Nat), x])) { s with heap := h'', toks := tk + 1 } :=
      I.turnedNew (ch := [e, it]) (fun b ob hb q => (sb.2 b (fun z => hb (by simp [z]))).trans (hk b ob (fun z => hb (by simp [z])) (fun z => hb (by simp [z])) q)) hf (Nat.le_refl _) new
    refine ⟨.ref s.heap.objs.size, _, I1, rfl, ⟨_, x, rfl, I.hok.fresh (Nat.le_refl _), rfl, fun ys hy => by rw [I.tuple_inj hy hq]; exact hx⟩, ⟨⟨u', ?_⟩, hit'.at fun o q => (sb.2 it (Ne.symm hne)).trans q, hne, hai, hae⟩, fun b hb => ?_⟩
    · have e1 : ((i + 1 : Nat) : Int) = (i : Int) + 1 := by omega
      rw [e1]; exact he'
    · have hb' : b < s.heap.objs.size := by
        have e' : b = e ∨ b = it := by simpa using hb
        rcases e' with z | z
        · rw [z]; exact hel
        · rw [z]; exact hil
      rw [upd_ne (Nat.ne_of_lt hb')]
      exact (hf b hb).1
  done := by
    intro X hP hw hK hc i pins s σ H E I hf st hg
    subst hP hw hK
    obtain ⟨⟨old, he⟩, hit, hne, hai, hae⟩ := st
    obtain ⟨xs, hq, hx⟩ := hg
    obtain ⟨its, rv, p, hz⟩ := I.tuple hq
    have p' : s.heap.IsTuple a its.toArray := p
    obtain ⟨f0, f1, f2, f3, f4, f5⟩ := hf it (by simp)
    have hl := rv.length
    exact wpAny_pyNext_enumT_end (I.ok.hd hc) he hit p' (by simp; omega) fun h' eb => ⟨rfl, I.turned (t' := s.toks) (fun b o hb q => eb b o hb q) f0 f1 f3 f4 f5⟩
  self := fun A i s Q E st h => let ⟨⟨_, he⟩, _⟩ := st; wpAny_pyIter_enum he h
theorem itOk_enumT {K : PySem.W.Frag} {F : Hp} {a : Addr} {ds : List D} {S : Mu → Prop} (base : ItOk K (Itt K a) ds S F) : ItOk K (Itet K a) (enumD ds) S F where
  go := fun Γ hK i F2 δ μ σ H s a2 hS d hd => by
    obtain ⟨e, he, rfl⟩ := enumD_get hd
    obtain ⟨⟨xs, x, h1, h2⟩, g⟩ := base.go Γ hK i F2 δ μ σ H s a2 hS e he
    refine ⟨⟨xs, x, h1, h2⟩, fun v H' y => ?_⟩
    obtain ⟨T, x', rfl, hT, rfl, y⟩ := y
    obtain ⟨F3, s3, a3, r3⟩ := g x' H ⟨rfl, y⟩
    have sF := same_upd (o := HO.tup [.int (i : Nat), x']) (a3.sx.sub.free hT)
    exact ⟨upd F3 T (.tup [.int (i : Nat), x']), s3.trans sF, a3.pers _ hT, dpt (.inl (.inl upd_same)) (Dps.cons dpi (Dps.cons (r3.mono sF) Dps.nil))⟩
  stop := fun Γ hK i F2 δ μ σ H s a2 hS hi => base.stop Γ hK i F2 δ μ σ H s a2 hS (by rw [enumD_len] at hi; exact hi)
/-- enumerate over a list or a tuple -/
def iEnumC (K : PySem.W.Frag) (ta : TA) : TI := fun σ H R => ta σ H fun vs H1 => (∃ a xs, vs = [.ref a] ∧ SqL K H1 a xs ∧ R (Ite K a) H1) ∨ ∃ a xs, vs = [.ref a] ∧ SqT K H1 a xs ∧ R (Itet K a) H1
theorem pi_enumC {X : Cx} {e : Expr} {ta : TA} {p pos tpos : Pos} {elts : List Expr} {kk : Nat} (hg : Gl X "enumerate") (hm : X.mg "enumerate" = none) (ha : PA X [e] ta) (hs : starEach [e] X.env = [(false, eval e X.env)] := by rfl) :
    PI X (.Tuple elts kk tpos) (.Call (.Name "enumerate" p) [e] [] pos) (iEnumC X.K ta) := by
  refine ⟨fun pins s σ H R I h => ?_⟩
  refine Call_ (ld_blt I hg hm boot_enumerate (PyProof.Rows.callWith_type1 (thn (ha.run pos pins s σ H _ I h) fun us s1 ⟨vs, H1, I1, r1, q1⟩ => ?_) hs rfl))
  rcases q1 with ⟨a, xs, ex, hq, q⟩ | ⟨a, xs, ex, hq, q⟩
  · subst ex
    cases r1 with
    | cons r rr =>
      cases rr
      cases r
      obtain ⟨its, rv, p', hz⟩ := I1.list hq
      refine call_enumerate_list p'.isList fun h' he hit hsz hk => wpAny_pyIter_enum he ?_
      have I2 : Inv X pins σ H1 { s1 with heap := h' } := I1.kept (t' := s1.toks) hk
      refine ⟨s1.heap.objs.size + 1, [s1.heap.objs.size + 1, s1.heap.objs.size], _, _, H1, rfl, I2, turn_enum a (s1.heap.objs.size + 1) s1.heap.objs.size, ⟨⟨.none, he⟩, hit, Nat.succ_ne_self _⟩, fun b hb => ?_, q⟩
      have e' : b = s1.heap.objs.size + 1 ∨ b = s1.heap.objs.size := by simpa using hb
      have hle : s1.heap.objs.size ≤ b := by
        rcases e' with z | z
        · rw [z]; exact Nat.le_add_right _ _
        · rw [z]; exact Nat.le_refl _
      exact I1.fpOk hle (I1.hok.fresh hle)
  · subst ex
    cases r1 with
    | cons r rr =>
      cases rr
      cases r
      obtain ⟨its, rv, p', hz⟩ := I1.tuple hq
      have p2 : s1.heap.IsTuple a its.toArray := p'
      have hal : a < s1.heap.objs.size := by obtain ⟨_, z, _⟩ := p2; exact Heap.lt_size z
      refine call_enumerate_tuple p2 fun h' he hit hsz hk => wpAny_pyIter_enum he ?_
      have I2 : Inv X pins σ H1 { s1 with heap := h' } := I1.kept (t' := s1.toks) hk
      refine ⟨s1.heap.objs.size + 1, [s1.heap.objs.size + 1, s1.heap.objs.size], _, _, H1, rfl, I2, turn_enumT a (s1.heap.objs.size + 1) s1.heap.objs.size, ⟨⟨.none, he⟩, hit, Nat.succ_ne_self _, Nat.ne_of_lt hal, Nat.ne_of_lt (Nat.lt_succ_of_lt hal)⟩, fun b hb => ?_, q⟩
      have e' : b = s1.heap.objs.size + 1 ∨ b = s1.heap.objs.size := by simpa using hb
      have hle : s1.heap.objs.size ≤ b := by
        rcases e' with z | z
        · rw [z]; exact Nat.le_add_right _ _
        · rw [z]; exact Nat.le_refl _
      exact I1.fpOk hle (I1.hok.fresh hle)
section
variable {Γ : Ct} {δ : Dl} {μ : Mu} {R : List D → (Mu → Prop) → Mu → Prop} {pos : Pos}
theorem eid_enumS {e : Expr} {p pos tpos : Pos} {elts : List Expr} {kk : Nat} (hm : Γ.X.mg "enumerate" = none)
    (h : ea Γ [e] δ μ fun ds μ1 => ∃ x xs, ds = [x] ∧ SeqD μ1 x xs ∧ R (enumD xs) (fun μ' => SeqD μ' x xs) μ1)
    (hg : Gl Γ.X "enumerate" := by rfl) (hs : starEach [e] Γ.X.env = [(false, eval e Γ.X.env)] := by rfl) : eid Γ (.Tuple elts kk tpos) (.Call (.Name "enumerate" p) [e] [] pos) δ μ R := fun F σ H a =>
  wi_of (pi_enumC hg hm pa_wa hs) (wa_mono (h F σ H a) fun vs H1 ⟨F1, ds, μ1, s1, a1, r1, x, xs, e1, hx, q⟩ => by
    subst e1
    obtain ⟨v, rfl, r2⟩ := r1.one
    cases hx with
    | lst =>
      obtain ⟨p, ws, rfl, h1, h2⟩ := dpL r2
      have b := itOk_enum (itOk_list h1 h2)
      exact .inl ⟨p, ws, rfl, .inl (.inl (a1.sx.sub _ _ h1)), F1, _, _, μ1, s1, a1, ⟨fun Γ hK i F δ μ σ H s a _ d hd => b.go Γ hK i F δ μ σ H s a trivial d hd, fun Γ hK i F δ μ σ H s a _ hi => b.stop Γ hK i F δ μ σ H s a trivial hi⟩, q⟩
    | rl =>
      obtain ⟨p, ws, rfl, h1, h2⟩ := dpRl r2
      have b := itOk_enum (itOk_rl h1 h2)
      exact .inl ⟨p, ws, rfl, a1.sx.sub.seq h1, F1, _, _, μ1, s1, a1, ⟨fun Γ hK i F δ μ σ H s a _ d hd => b.go Γ hK i F δ μ σ H s a trivial d hd, fun Γ hK i F δ μ σ H s a _ hi => b.stop Γ hK i F δ μ σ H s a trivial hi⟩, q⟩
    | tup =>
      obtain ⟨p, ws, rfl, h1, h2⟩ := dpT r2
      have b := itOk_enumT (itOk_tup h1 h2)
      exact .inr ⟨p, ws, rfl, Same.sqT a1.sx.sub h1, F1, _, _, μ1, s1, a1, ⟨fun Γ hK i F δ μ σ H s a _ d hd => b.go Γ hK i F δ μ σ H s a trivial d hd, fun Γ hK i F δ μ σ H s a _ hi => b.stop Γ hK i F δ μ σ H s a trivial hi⟩, q⟩
    | own hmem =>
      rename_i pp
      rw [dpR r2]
      obtain ⟨ws, h1, h2⟩ := a1.sx.cells _ hmem
      have b := itOk_enum (itOk_own (K := Γ.X.K) (F := F1) (a := pp) (ds := xs))
      refine .inl ⟨pp, ws, rfl, .inl (.inl h1), F1, _, _, μ1, s1, a1, ⟨fun Γ hK i F δ μ σ H s a hS d hd => b.go Γ hK i F δ μ σ H s a ?_ d hd, fun Γ hK i F δ μ σ H s a hS hi => b.stop Γ hK i F δ μ σ H s a ?_ hi⟩, q⟩
      · cases hS with | own h => exact h
      · cases hS with | own h => exact h)
/-! ### a text's signs -/
def signsD (x : Str) : List D := x.cps.toList.map fun c => .str ⟨#[c]⟩
theorem itOk_str {K : PySem.W.Frag} {F : Hp} {x : Str} : ItOk K (Its x) (signsD x) (fun _ => True) F where
  go := fun Γ hK i F2 δ μ σ H s a2 _ d hd => by
    unfold signsD at hd
    rw [List.getElem?_map] at hd
    cases e : x.cps.toList[i]? with
    | none => rw [e] at hd; cases hd
    | some c =>
      rw [e] at hd
      cases hd
      have hc : x.cps[i]? = some c := by simpa using e
      refine ⟨(Array.getElem?_eq_some_iff.mp hc).1, fun v H' y => ?_⟩
      obtain ⟨rfl, c', hc', rfl⟩ := y
      rw [hc] at hc'
      cases hc'
      exact ⟨F2, Same.refl _, a2, by rw [Dp]⟩
  stop := fun Γ hK i F2 δ μ σ H s a2 _ hi => by
    unfold signsD at hi
    rw [List.length_map] at hi
    show x.cps.size ≤ i
    simpa using hi
theorem itf_str {X : Cx} {tg : Expr} {x : Str} {H : Hp} {R : It → Hp → Prop} (q : R (Its x) H) : itf X tg (.str x) H R := fun pins s σ v I1 r1 => by
  obtain ⟨t, rfl⟩ := r1
  cases ha : x.cps.all (· < 128)
  · exact wpAny_pyIter_wide ha (pi_one (tk := s.toks) I1 _ (turn_str _ x t "str_iterator" (.inr rfl)) ⟨_, Heap.get?_push_size _ rfl, rfl, rfl⟩ q)
  · exact wpAny_pyIter_ascii ha (pi_one (tk := s.toks) I1 _ (turn_str _ x t "str_ascii_iterator" (.inl rfl)) ⟨_, Heap.get?_push_size _ rfl, rfl, rfl⟩ q)
theorem itd_str {tg : Expr} {x : Str} (q : R (signsD x) (fun _ => True) μ) : itd Γ tg (.str x) δ μ R := fun F σ H v a r => by
  rw [Dp] at r
  subst r
  exact itf_str ⟨F, _, _, μ, Same.refl F, a, itOk_str, q⟩
end
section
variable {Γ : Ct} {δ : Dl} {μ : Mu} {Q : D → Mu → Prop}
theorem opd_inSign {c : Nat} {z : Str} (q : Q (.bl (decide (c ∈ z.cps.toList))) μ) : opd Γ (compareOp .In) (.str ⟨#[c]⟩) (.str z) δ μ Q := opd_of op_in_sign fun F σ H vx vy a r1 r2 => by
  rw [Dp] at r1 r2
  subst r1 r2
  exact ⟨c, z, rfl, rfl, PostE.here a dpb q⟩
theorem cld_strS {x : Str} (q : Q (.str x) μ) : cld Γ (.type "str") [.str x] δ μ Q := cld_of SkE.call_str_str fun F σ H vs a r0 => by
  obtain ⟨v, rfl, r⟩ := r0.one
  rw [Dp] at r
  subst r
  exact ⟨x, rfl, PostE.here a (by rw [Dp]) q⟩
end
section
variable {Γ : Ct} {δ : Dl} {μ : Mu} {a b c : Expr} {pos : Pos}
/-- a < b < c as a test -/
theorem et_chain {op op' : CmpOp} {Q : Bool → Mu → Prop} (h : ed Γ a δ μ fun x μ1 => ed Γ b δ μ1 fun y μ2 => opd Γ (compareOp op) x y δ μ2 fun d μ3 => ∃ k, d = .bl k ∧ if k = true then ed Γ c δ μ3 fun z μ4 => opd Γ (compareOp op') y z δ μ4 (fun d μ5 => ∃ k, d = .bl k ∧ Q k μ5) else Q false μ3)
    (hm : lastMarks [op, op'] [b, c] = false := by with_unfolding_all rfl) : et Γ (.Compare a [op, op'] [b, c] pos) δ μ Q := fun F σ H at_ => by
  refine wt_of (pt_chain rwf_ok rwf_ok pe_we pe_we pe_we hm) ?_
  refine we_mono (h F σ H at_) fun x H1 ⟨F1, d1, μ1, s1, h1, r1, q1⟩ => ?_
  refine we_mono (q1 F1 σ H1 h1) fun y H2 ⟨F2, d2, μ2, s2, h2, r2, q2⟩ => ?_
  refine rwf_mono (q2 F2 σ H2 x y h2 (r1.mono s2) r2) fun v H3 ⟨F3, d3, μ3, s3, h3, r3, k, e3, q3⟩ => ?_
  subst e3
  rw [Dp] at r3
  refine ⟨k, r3, ?_⟩
  cases k with
  | true =>
    rw [if_pos rfl] at q3 ⊢
    refine we_mono (q3 F3 σ H3 h3) fun z H4 ⟨F4, d4, μ4, s4, h4, r4, q4⟩ => ?_
    refine rwf_mono (q4 F4 σ H4 y z h4 ((r2.mono s3).mono s4) r4) fun v5 H5 ⟨F5, d5, μ5, s5, h5, r5, k5, e5, q5⟩ => ?_
    subst e5
    rw [Dp] at r5
    exact ⟨k5, r5, F5, μ5, (((s1.trans s2).trans s3).trans s4).trans s5, h5, q5⟩
  | false =>
    rw [if_neg Bool.false_ne_true] at q3 ⊢
    exact ⟨false, rfl, F3, μ3, (s1.trans s2).trans s3, h3, q3⟩
end
end PD
/-! PD24: C() -/
namespace PD
open PySem PySem.Spec PyProof.Rows L2
section
variable {X : Cx} {b' : Md} {k : Nat} {C f : Addr} {fd : FuncData} {ps : List Str} {sp : Sp} {dvs : List V} {dus : List Value} {x : Str} {p pos : Pos}
theorem pe_makeS0 {Eσ : L2.St → XK} (M : Mk X.K C f) (G : FnOk X.prog X.w X.K X.mg X.base b' k f fd ps sp) (hr : Room (k + 1) X.A) (hg : Gl X x) (hm : X.mg x = some (.ref C)) (hb : Binds X.K fd ps dus) (hd : Vals dvs dus) (hx : ∀ σ, PassesAt (CXB b' X.prog X.w) X σ (Eσ σ)) (hdb : (x == ("__debug__" : Str)) = false) :
    PE X (.Call (.Name x p) [] [] pos) (fun σ H1 Q => ∀ a dx, H1 a = none → H1 dx = none → dx ≠ a → sp (.ref a :: ([] ++ dvs)) (upd (upd H1 dx (.own a)) a (.ins C dx [])) (fun v H2 => v = .non ∧ Q (.ref a) H2) (Eσ σ)) where
  run := fun pins s σ H Q I h => wpAny_Call_Name_kw (ld_glob I hg hm (PySem.W.callWith_K0 I.kIn M.kp (run_makeS (us := []) (vs := []) M G hr hb hd (hx σ) I .nil h)) hdb)
end
section
variable {Γ : Ct} {δ : Dl} {μ : Mu} {Q : D → Mu → Prop} {pos : Pos} {k j n : Nat} {f C : Addr} {sp : SpD} {dds : List D} {x : Str} {p : Pos}
theorem ed_makeC0 (Md : MakeD Γ.X.prog Γ.X.w Γ.X.K Γ.X.mg Γ.X.base k C n dds sp) (hr : Room j Γ.X.A) (hkj : k + 1 ≤ j) (hm : Γ.X.mg x = some (.ref C)) (h : dds.length = n ∧ sp dds μ Q fun cls ns xs μ' => Γ.W cls ns xs δ μ') (hg : Gl Γ.X x := by rfl)
    (hdb : (x == ("__debug__" : Str)) = false := by decide +kernel) :
    ed Γ (.Call (.Name x p) [] [] pos) δ μ Q := by
  obtain ⟨f, spI, M, Cd, hI⟩ := Md.ex
  obtain ⟨fd, ps, dvs, dus, hl, b, v, dd, G⟩ := (Cd.at_ Γ.nn).ex
  obtain ⟨hn, q⟩ := h
  intro F σ H a
  refine we_of (pe_makeS0 (Eσ := fun σ cls dx H' => WofD Γ.X.K Γ.F0 Γ.μ0 Γ.H0 Γ.W cls dx σ H') M G (hr.mono hkj) hg hm b v (fun σ => passAt Γ.tk σ) hdb) fun q' dx hq hdx hne => ?_
  have a2 : At Γ F δ ((q', Cell.ins C dx [] []) :: μ) σ (upd (upd H dx (.own q')) q' (.ins C dx [])) := (a.ext (same_upd hdx)).own (by rw [upd_ne (Ne.symm hne)]; exact hq) ⟨[], upd_same, rfl, Dps.nil⟩
  have r2 : Dps Γ.X.K F (.ref q' :: dds) (.ref q' :: ([] ++ dvs)) := Dps.cons dpr (dd F)
  refine ⟨F, _, _, Frz Q q' C dx, _, a2.sx, r2, by rw [hl, List.length_cons, hn], hI _ _ _ _ q q' dx, fun v H' F' μ' d st sx rd z => ?_, fun cls dx' H' F' μ' ns xs st sx xo z => ⟨F', μ', δ, ns, xs, a2.st.trans st, sx, a2.fr.mono st.ext, xo, z⟩⟩
  obtain ⟨rfl, z⟩ := z
  exact ⟨by rw [Dp] at rd; exact rd, PostE.frz rfl ⟨F', μ', st.ext, ⟨a2.st.trans st, sx, a2.fr.mono st.ext⟩, z⟩⟩
end
end PD
/-! PD25: own + and *, in place; own order; tuple * int. -/
namespace PD
open PySem PySem.Spec PyProof.Rows L2
/-! ### the rules -/
section
variable {Γ : Ct} {δ : Dl} {μ : Mu} {Q : D → Mu → Prop} {k j n : Nat} {f g C : Addr} {sp : SpD} {dds : List D} {x y : D} {op : Operator}
theorem own_here (hx : InsC C x μ) {F H : Hp} {σ σ' : L2.St} {vx : V} {v : Value} {pins : List (Addr × Obj)} {s : Shared} (a : At Γ F δ μ σ H) (r1 : Dp Γ.X.K F x vx) (I : Inv Γ.X pins σ' H s) (q1 : RelV vx v) :
    ∃ p dx od, v = .ref p ∧ vx = .ref p ∧ s.heap.get? p = some (PySem.W.instObj C dx) ∧ PySem.W.InstAt s.heap p (PySem.W.instObj C dx) C (some od) := by
  obtain ⟨p, dx, gs, rfl, h1⟩ := insC_run a hx r1
  obtain rfl : v = Value.ref p := q1
  obtain ⟨mA, O, _⟩ := ins_get I.hok h1
  obtain ⟨od, J, _⟩ := O.look
  exact ⟨p, dx, od, rfl, rfl, O.obj, J⟩
/-! ### name op= e -/
/-- list * int -/
theorem opd_repL {xs : List D} {i : Int} (h0 : -(2 ^ 63) ≤ i) (h1 : i < 2 ^ 63) (hl : xs.length * i.toNat ≤ sizeLine) (q : Q (.lst (List.replicate i.toNat xs).flatten) μ) : opd Γ (binaryOp .Mult) (.lst xs) (.int i) δ μ Q := opd_of op_rep fun F σ H vx vy a r1 r2 => by
  obtain ⟨p1, vs, rfl, e1, e2⟩ := dpL r1
  have e := dpI r2
  subst e
  refine ⟨p1, i, vs, rfl, rfl, a.sx.sub _ _ e1, h0, h1, by rw [← e2.length]; exact hl, fun p hp => ?_⟩
  have sF := same_upd (o := HO.lst (List.replicate i.toNat vs).flatten) (a.sx.sub.free hp)
  refine PostE.new a hp (dpl upd_same (Dps.mono sF ?_)) q
  generalize i.toNat = m
  induction m with
  | zero => exact Dps.nil
  | succ m ih =>
    rw [List.replicate_succ, List.replicate_succ, List.flatten_cons, List.flatten_cons]
    exact e2.append ih
end
end PD
/-! PD26: tuple * int, any tuple and number. -/
namespace PD
open PySem PySem.Spec PyProof.Rows L2
end PD
/-! PD27: facts for own operators by the methods. -/
namespace PD
open PySem PySem.Spec PyProof.Rows L2
end PD
/-! PD28: dicts whose keys are ints and texts, owned. -/
namespace PD
open PySem PySem.Spec PyProof.Rows L2
abbrev Dic := List (Key × D)
def dic (kvs : Dic) : Cell := .dK (kvs.map (·.1)) (kvs.map (·.2))
def valY (kvs : Dic) (k : Key) : Option D := (kvs.find? fun kv => decide (kv.1 = k)).map (·.2)
def putY (kvs : Dic) (k : Key) (d : D) : Dic := if (kvs.any fun kv => decide (kv.1 = k)) = true then kvs.map (fun kv => if kv.1 = k then (kv.1, d) else kv) else kvs ++ [(k, d)]
def dropY (kvs : Dic) (k : Key) : Dic := kvs.filter fun kv => decide (kv.1 ≠ k)
def KVd (K : PySem.W.Frag) (F : Hp) : Dic → List (Key × V) → Prop
  | [], gs => gs = []
  | p :: r, gs => ∃ q t, gs = q :: t ∧ q.1 = p.1 ∧ Dp K F p.2 q.2 ∧ KVd K F r t
section
variable {K : PySem.W.Frag} {F F' : Hp}
theorem kvd_of : ∀ {kvs : Dic} {gs : List (Key × V)}, gs.map (·.1) = kvs.map (·.1) → Dps K F (kvs.map (·.2)) (gs.map (·.2)) → KVd K F kvs gs
  | [], gs, h, _ => by simpa [KVd] using h
  | p :: r, [], h, _ => by simp at h
  | p :: r, q :: t, h, hd => by
    rw [List.map_cons, List.map_cons] at h hd
    obtain ⟨v, ws, e, h1, h2⟩ := hd.uncons
    injection e with e1 e2
    injection h with h3 h4
    subst e1 e2
    exact ⟨q, t, rfl, h3, h1, kvd_of h4 h2⟩
theorem KVd.keys : ∀ {kvs : Dic} {gs : List (Key × V)}, KVd K F kvs gs → gs.map (·.1) = kvs.map (·.1)
  | [], gs, h => by cases (show gs = [] from h); rfl
  | p :: r, gs, h => by
    obtain ⟨q, t, rfl, h1, _, h3⟩ := (show ∃ q t, gs = q :: t ∧ q.1 = p.1 ∧ Dp K F p.2 q.2 ∧ KVd K F r t from h)
    rw [List.map_cons, List.map_cons, h1, KVd.keys h3]
theorem KVd.vals : ∀ {kvs : Dic} {gs : List (Key × V)}, KVd K F kvs gs → Dps K F (kvs.map (·.2)) (gs.map (·.2))
  | [], gs, h => by cases (show gs = [] from h); exact Dps.nil
  | p :: r, gs, h => by
    obtain ⟨q, t, rfl, _, h2, h3⟩ := (show ∃ q t, gs = q :: t ∧ q.1 = p.1 ∧ Dp K F p.2 q.2 ∧ KVd K F r t from h)
    rw [List.map_cons, List.map_cons]
    exact Dps.cons h2 (KVd.vals h3)
theorem KVd.length {kvs : Dic} {gs : List (Key × V)} (h : KVd K F kvs gs) : kvs.length = gs.length := by
  have := congrArg List.length h.keys
  rw [List.length_map, List.length_map] at this
  exact this.symm
theorem KVd.any (k : Key) : ∀ {kvs : Dic} {gs : List (Key × V)}, KVd K F kvs gs → (gs.any fun kv => decide (kv.1 = k)) = kvs.any fun kv => decide (kv.1 = k)
  | [], gs, h => by cases (show gs = [] from h); rfl
  | p :: r, gs, h => by
    obtain ⟨q, t, rfl, h1, _, h3⟩ := (show ∃ q t, gs = q :: t ∧ q.1 = p.1 ∧ Dp K F p.2 q.2 ∧ KVd K F r t from h)
    rw [List.any_cons, List.any_cons, h1, KVd.any k h3]
theorem KVd.val (k : Key) : ∀ {kvs : Dic} {gs : List (Key × V)}, KVd K F kvs gs → (∀ d, valY kvs k = some d → ∃ v, valV gs k = some v ∧ Dp K F d v) ∧ (valY kvs k = none → valV gs k = none)
  | [], gs, h => by cases (show gs = [] from h); exact ⟨(fun d e => nomatch e), fun _ => rfl⟩
  | p :: r, gs, h => by
    obtain ⟨q, t, rfl, h1, h2, h3⟩ := (show ∃ q t, gs = q :: t ∧ q.1 = p.1 ∧ Dp K F p.2 q.2 ∧ KVd K F r t from h)
    have ih := KVd.val k h3
    by_cases e : p.1 = k
    · have e1 : valY (p :: r) k = some p.2 := by simp [valY, List.find?_cons, e]
      have e2 : valV (q :: t) k = some q.2 := valV_pos (h1.trans e)
      rw [e1, e2]
      exact ⟨fun d z => by cases z; exact ⟨q.2, rfl, h2⟩, fun z => nomatch z⟩
    · have e1 : valY (p :: r) k = valY r k := by simp [valY, List.find?_cons, e]
      have e2 : valV (q :: t) k = valV t k := valV_neg (fun z => e (h1.symm.trans z))
      rw [e1, e2]
      exact ih
theorem KVd.snoc {k : Key} {d : D} {v : V} (r : Dp K F d v) : ∀ {kvs : Dic} {gs : List (Key × V)}, KVd K F kvs gs → KVd K F (kvs ++ [(k, d)]) (gs ++ [(k, v)])
  | [], gs, h => by cases (show gs = [] from h); exact ⟨_, _, rfl, rfl, r, rfl⟩
  | p :: r', gs, h => by
    obtain ⟨q, t, rfl, h1, h2, h3⟩ := (show ∃ q t, gs = q :: t ∧ q.1 = p.1 ∧ Dp K F p.2 q.2 ∧ KVd K F r' t from h)
    exact ⟨q, _, rfl, h1, h2, KVd.snoc r h3⟩
theorem KVd.over {k : Key} {d : D} {v : V} (r : Dp K F d v) : ∀ {kvs : Dic} {gs : List (Key × V)}, KVd K F kvs gs → KVd K F (kvs.map fun kv => if kv.1 = k then (kv.1, d) else kv) (gs.map fun kv => if kv.1 = k then (kv.1, v) else kv)
  | [], gs, h => by cases (show gs = [] from h); rfl
  | p :: r', gs, h => by
    obtain ⟨q, t, rfl, h1, h2, h3⟩ := (show ∃ q t, gs = q :: t ∧ q.1 = p.1 ∧ Dp K F p.2 q.2 ∧ KVd K F r' t from h)
    refine ⟨_, _, rfl, ?_, ?_, KVd.over r h3⟩
    · show (if q.1 = k then (q.1, v) else q).1 = (if p.1 = k then (p.1, d) else p).1
      rw [h1]; split <;> first | rfl | exact h1
    · show Dp K F (if p.1 = k then (p.1, d) else p).2 (if q.1 = k then (q.1, v) else q).2
      rw [h1]; split <;> first | exact r | exact h2
theorem KVd.put {kvs : Dic} {gs : List (Key × V)} (h : KVd K F kvs gs) (k : Key) {d : D} {v : V} (r : Dp K F d v) : KVd K F (putY kvs k d) (putK gs k v) := by
  unfold putY putK
  rw [h.any k]
  split
  · exact h.over r
  · exact h.snoc r
theorem KVd.drop (k : Key) : ∀ {kvs : Dic} {gs : List (Key × V)}, KVd K F kvs gs → KVd K F (dropY kvs k) (dropK gs k)
  | [], gs, h => by cases (show gs = [] from h); rfl
  | p :: r, gs, h => by
    obtain ⟨q, t, rfl, h1, h2, h3⟩ := (show ∃ q t, gs = q :: t ∧ q.1 = p.1 ∧ Dp K F p.2 q.2 ∧ KVd K F r t from h)
    have ih := KVd.drop k h3
    unfold dropY dropK at ih ⊢
    rw [List.filter_cons, List.filter_cons, h1]
    split
    · exact ⟨q, _, rfl, h1, h2, ih⟩
    · exact ih
end
/-! ### a dict that stands in a cell -/
def DicAt (μ : Mu) (p : Addr) (kvs : Dic) : Prop := (p, dic kvs) ∈ μ ∨ ∃ od gs, (p, Cell.dF od gs (kvs.map (·.2))) ∈ μ ∧ gs.map (·.1) = kvs.map (·.1)
section
variable {Γ : Ct} {δ : Dl} {μ : Mu} {Q : D → Mu → Prop} {p : Addr} {kvs : Dic} {k : Key} {d : D} {μ1 μ2 : Mu} {F H : Hp} {σ : L2.St} {pos : Pos}
theorem cell_dic (a : At Γ F δ μ σ H) (h : (p, dic kvs) ∈ μ) : ∃ gs, H p = some (.dK gs) ∧ KVd Γ.X.K F kvs gs := by
  obtain ⟨gs, h1, h2, h3⟩ := a.sx.cells _ h
  exact ⟨gs, h1, kvd_of h2 h3⟩
theorem dicAt (a : At Γ F δ μ σ H) (h : DicAt μ p kvs) : ∃ gs, Rd H p (.dK gs) ∧ KVd Γ.X.K F kvs gs := by
  rcases h with h | ⟨od, gs, h, e⟩
  · obtain ⟨gs, h1, h2⟩ := cell_dic a h
    exact ⟨gs, .inl h1, h2⟩
  · obtain ⟨h1, h2⟩ := a.sx.cells _ h
    exact ⟨gs, .inr ⟨od, h1⟩, kvd_of e h2⟩
theorem cld_len_Y (h : DicAt μ p kvs) (q : Q (.int (kvs.length : Nat)) μ) : cld Γ (.builtin "len") [.ref p] δ μ Q := fun F σ H vs a r0 pins s σ' us I q1 => by
  obtain ⟨gs, h1, h2⟩ := dicAt a h
  obtain ⟨v, ws, rfl, r1, r2⟩ := r0.uncons
  obtain rfl := r2.unnil
  have e := dpR r1
  subst e
  obtain ⟨u, rfl, ru⟩ := q1.one
  obtain rfl : u = Value.ref p := ru
  refine d_len I h1 fun t s' I' => ⟨.int (gs.length : Nat), H, I', ⟨t, rfl⟩, ?_⟩
  rw [← h2.length]
  exact PostE.here a (d := .int (kvs.length : Nat)) (by rw [Dp]) q
/-! ### a dict is locked while it is walked -/
end
end PD
/-! PD29: walks over a locked dict. -/
namespace PD
open PySem PySem.Spec PyProof.Rows L2
/-! ### a statement while a dict is locked -/
end PD
/-! PD30: set(a list of ints), sorted of it. -/
namespace PD
open PySem PySem.Spec PyProof.Rows L2
end PD
/-! PD31: [elt for tg in iter if .. for tg1 in iter1 if ..]. -/
namespace PD
open PySem PySem.Spec PyProof.Rows L2
section
variable {Γ : Ct} {elt tg iter tg1 iter1 : Expr} {ifs ifs1 : List Expr} {scope : Scope} {own : List (Str × Nat)} {vs1 : List Nat} {pos : Pos} {δ : Dl} {μ : Mu} {Q : D → Mu → Prop}
/-- the inner source, as it is asked in a block -/
def lcd1 (Γ : Ct) (elt tg1 iter1 : Expr) (ifs1 : List Expr) (scope : Scope) (vs1 : List Nat) (δ2 : Dl) (μ3 : Mu) (acc : List D) (Nx : List D → Mu → Prop) : Prop :=
  allB Γ scope fun Γe => eid Γe tg1 iter1 δ2 μ3 fun ds1 S1 μ4 => ∃ I1 : Nat → List D → Mu → Prop, I1 0 acc μ4 ∧ (∀ j acc' μ', j ≤ ds1.length → I1 j acc' μ' → S1 μ' ∧ acc'.length ≤ 1000000) ∧
    (∀ j d1 acc' μ', ds1[j]? = some d1 → I1 j acc' μ' → allB Γ scope fun Γf => gv Γf tg1 d1 vs1 (wipeD δ2 vs1) μ' fun δ3 μ5 => allB Γ scope fun Γg => eif Γg ifs1 δ3 μ5 fun b μ6 =>
      if b = true then allB Γ scope fun Γh => ed Γh elt δ3 μ6 fun r μ7 => I1 (j + 1) (acc' ++ [r]) μ7 else I1 (j + 1) acc' μ6) ∧ ∀ acc' μ', I1 ds1.length acc' μ' → Nx acc' μ'
def lcd2 (Γ : Ct) (elt tg iter : Expr) (ifs : List Expr) (tg1 iter1 : Expr) (ifs1 : List Expr) (scope : Scope) (vs vs1 : List Nat) (δ : Dl) (μ : Mu) (Q : List D → Mu → Prop) : Prop := eid Γ tg iter δ μ fun ds S μ1 => ∃ I : Nat → List D → Mu → Prop, I 0 [] μ1 ∧ (∀ i acc μ', i ≤ ds.length → I i acc μ' → S μ') ∧
      (∀ i d acc μ', ds[i]? = some d → I i acc μ' → allB Γ scope fun Γb => gv Γb tg d vs (wipeD δ vs) μ' fun δ2 μ2 => allB Γ scope fun Γc => eif Γc ifs δ2 μ2 fun b μ3 =>
        if b = true then lcd1 Γ elt tg1 iter1 ifs1 scope vs1 δ2 μ3 acc (fun acc' μ' => I (i + 1) acc' μ') else I (i + 1) acc μ3) ∧ ∀ acc μ', I ds.length acc μ' → Q acc μ'
def wiB (X : Cx) (scope : Scope) (tg iter : Expr) : TI := fun σ H R => ∀ s H0 C cl fp, wi (X.blk s H0 scope (compEnvC scope cl C X.env) fp) tg iter σ H R
theorem pi_wiB {X : Cx} (s H C cl fp) : PI (X.blk s H scope (compEnvC scope cl C X.env) fp) tg iter (wiB X scope tg iter) := ⟨fun pins s' σ H' R I h => h s H C cl fp pins s' I⟩
theorem lcd2_run {vs : List Nat} {Q : List D → Mu → Prop} (h : lcd2 Γ elt tg iter ifs tg1 iter1 ifs1 scope vs vs1 δ μ Q) (F σ H) (a : At Γ F δ μ σ H) :
    tLc2 (wi Γ.X tg iter) (wgB Γ.X scope tg) (wtB Γ.X scope ifs) (wiB Γ.X scope tg1 iter1) (wgB Γ.X scope tg1) (wtB Γ.X scope ifs1) (weB Γ.X scope elt) vs vs1 σ H (PostE Γ F δ σ fun d μ' => ∃ ds, d = .lst ds ∧ Q ds μ') := by
  refine wi_mono (h F σ H a) fun J H1 ⟨F1, ds, S, μ1, s1, a1, ok, I, h0, hS, hb, hd⟩ => fun Da hD => ?_
  have h0D : Γ.H0 Da = none ∨ Da ∈ dom Γ.μ0 := a1.st.back hD
  refine ⟨fun i m H' => m = ds.length - i ∧ i ≤ ds.length ∧ ∃ F' acc μ', LcAt Γ F1 δ σ Da acc μ' H' F' ∧ I i acc μ', ⟨ds.length, by simp, Nat.zero_le _, F1, [], μ1, ⟨Same.refl _, a1.ext (same_upd hD), ⟨[], upd_same, Dps.nil⟩, a1.sx.sub.free hD, fun hm => ?_⟩, h0⟩, ?_⟩
  · obtain ⟨c, hc, e⟩ := List.mem_map.mp hm
    obtain ⟨u, hu⟩ := (a1.sx.cells c hc).there
    rw [e, hD] at hu; cases hu
  rintro i m H' ⟨rfl, hi, F', acc, μ', L, hI⟩
  have hSi := hS i acc μ' hi hI
  by_cases hlt : i < ds.length
  · have e : ds[i]? = some ds[i] := List.getElem?_eq_getElem hlt
    have ah := L.at_.here
    obtain ⟨g1, g2⟩ := ok.go (Γ.here L.at_.st) rfl i F' δ μ' σ H' L.sm ah hSi _ e
    refine .inr ⟨g1, fun H2 => ∃ F2 acc2 μ2, LcAt Γ F1 δ σ Da acc2 μ2 H2 F2 ∧ I (i + 1) acc2 μ2, fun H2 ⟨F2, acc2, μ2, L2', q2⟩ => ⟨ds.length - (i + 1), by omega, rfl, hlt, F2, acc2, μ2, L2', q2⟩, fun x H2 y => ?_⟩
    obtain ⟨F2, s2, a2, r2⟩ := g2 x H2 y
    have LL := L.step (σb := σ) (δb := δ) a2.st a2.sx
    intro sB HB C cl fp
    have aB : At (Γ.blk scope sB HB C cl fp F2 μ' H2) F2 (wipeD δ vs) μ' (L2.wipe σ vs) H2 := ⟨Step.refl _ _ _, LL.at_.sx, LL.at_.fr.wipe vs⟩
    refine wg_mono (hb i _ acc μ' e hI sB HB C cl fp F2 μ' H2 F2 (L2.wipe σ vs) H2 x aB r2) fun σ3 H3 ⟨w3, F3, δ3, μ3, s3, a3, q3⟩ => ⟨w3.trans wipe_wipe, ?_⟩
    have L3 := LL.step (σb := σ) (δb := δ) a3.st a3.sx
    intro sB2 HB2 C2 cl2 fp2
    have aC : At (Γ.blk scope sB2 HB2 C2 cl2 fp2 F3 μ3 H3) F3 δ3 μ3 σ3 H3 := ⟨Step.refl _ _ _, a3.sx, a3.fr⟩
    refine eif_run (q3 sB2 HB2 C2 cl2 fp2 F3 μ3 H3) aC fun b H4 ⟨F4, μ4, s4, a4, q4⟩ => ?_
    have L4 := L3.step (σb := σ) (δb := δ) a4.st a4.sx
    cases b with
    | false =>
      rw [if_neg Bool.false_ne_true] at q4 ⊢
      exact ⟨F4, acc, μ4, L4, q4⟩
    | true =>
      rw [if_pos rfl] at q4 ⊢
      intro sB5 HB5 C5 cl5 fp5
      have aE : At (Γ.blk scope sB5 HB5 C5 cl5 fp5 F4 μ4 H4) F4 δ3 μ4 σ3 H4 := ⟨Step.refl _ _ _, a4.sx, a4.fr⟩
      refine wi_mono (q4 sB5 HB5 C5 cl5 fp5 F4 μ4 H4 F4 σ3 H4 aE) fun J1 H5 ⟨F5, ds1, S1, μ5, s5, a5, ok1, I1, i0, iS, ib, ie⟩ => ?_
      have L5 := L4.step (σb := σ) (δb := δ) a5.st a5.sx
      refine ⟨fun j k H' => k = ds1.length - j ∧ j ≤ ds1.length ∧ ∃ F' acc' μ', LcAt Γ F1 δ σ Da acc' μ' H' F' ∧ Same F5 F' ∧ I1 j acc' μ', ⟨ds1.length, by simp, Nat.zero_le _, F5, acc, μ5, L5, Same.refl _, i0⟩, ?_⟩
      rintro j k H6 ⟨rfl, hj, F6, acc6, μ6, L6, sm6, hI1⟩
      obtain ⟨hSj, hacc⟩ := iS j acc6 μ6 hj hI1
      by_cases hlt1 : j < ds1.length
      · have e1 : ds1[j]? = some ds1[j] := List.getElem?_eq_getElem hlt1
        have aI : At (Γ.blk scope sB5 HB5 C5 cl5 fp5 F6 μ6 H6) F6 δ3 μ6 σ3 H6 := ⟨Step.refl _ _ _, L6.at_.sx, a5.fr.mono sm6⟩
        obtain ⟨k1, k2⟩ := ok1.go (Γ.blk scope sB5 HB5 C5 cl5 fp5 F6 μ6 H6) rfl j F6 δ3 μ6 σ3 H6 sm6 aI hSj _ e1
        refine .inr ⟨k1, fun H7 => ∃ F7 acc7 μ7, LcAt Γ F1 δ σ Da acc7 μ7 H7 F7 ∧ Same F5 F7 ∧ I1 (j + 1) acc7 μ7, fun H7 ⟨F7, acc7, μ7, L7, sm7, q7⟩ => ⟨ds1.length - (j + 1), by omega, rfl, hlt1, F7, acc7, μ7, L7, sm7, q7⟩, fun x1 H7 y1 => ?_⟩
        obtain ⟨F7, s7, a7, r7⟩ := k2 x1 H7 y1
        have L7 := L6.step (σb := σ) (δb := δ) a7.st a7.sx
        intro sC HC D1 cl7 fp7
        have aF : At (Γ.blk scope sC HC D1 cl7 fp7 F7 μ6 H7) F7 (wipeD δ3 vs1) μ6 (L2.wipe σ3 vs1) H7 := ⟨Step.refl _ _ _, L7.at_.sx, a7.fr.wipe vs1⟩
        refine wg_mono (ib j _ acc6 μ6 e1 hI1 sC HC D1 cl7 fp7 F7 μ6 H7 F7 (L2.wipe σ3 vs1) H7 x1 aF r7) fun σ8 H8 ⟨w8, F8, δ8, μ8, s8, a8, q8⟩ => ⟨w8.trans wipe_wipe, ?_⟩
        have L8 := L7.step (σb := σ) (δb := δ) a8.st a8.sx
        intro sC2 HC2 D2 cl8 fp8
        have aG : At (Γ.blk scope sC2 HC2 D2 cl8 fp8 F8 μ8 H8) F8 δ8 μ8 σ8 H8 := ⟨Step.refl _ _ _, a8.sx, a8.fr⟩
        refine eif_run (q8 sC2 HC2 D2 cl8 fp8 F8 μ8 H8) aG fun b H9 ⟨F9, μ9, s9, a9, q9⟩ => ?_
        have L9 := L8.step (σb := σ) (δb := δ) a9.st a9.sx
        have smm : Same F5 F9 := ((sm6.trans s7).trans s8).trans s9
        cases b with
        | true =>
          rw [if_pos rfl] at q9 ⊢
          intro sC5 HC5 D5 cl9 fp9
          have aH : At (Γ.blk scope sC5 HC5 D5 cl9 fp9 F9 μ9 H9) F9 δ8 μ9 σ8 H9 := ⟨Step.refl _ _ _, a9.sx, a9.fr⟩
          refine we_mono (q9 sC5 HC5 D5 cl9 fp9 F9 μ9 H9 F9 σ8 H9 aH) fun v H10 ⟨F10, r, μ10, s10, a10, r10, q10⟩ => ?_
          have L10 := L9.step (σb := σ) (δb := δ) a10.st a10.sx
          obtain ⟨ws, g1', g2'⟩ := L10.ls
          refine ⟨ws, g1', ?_, F10, acc6 ++ [r], μ10, ⟨L10.sm, L10.at_.updFree h0D L10.f L10.m, ⟨ws ++ [v], upd_same, g2'.append (Dps.cons r10 Dps.nil)⟩, L10.f, L10.m⟩, smm.trans s10, q10⟩
          rw [← g2'.length, sizeLine_eq]
          omega
        | false =>
          rw [if_neg Bool.false_ne_true] at q9 ⊢
          exact ⟨F9, acc6, μ9, L9, smm, q9⟩
      · have ej : j = ds1.length := by omega
        subst ej
        have aI : At (Γ.blk scope sB5 HB5 C5 cl5 fp5 F6 μ6 H6) F6 δ3 μ6 σ3 H6 := ⟨Step.refl _ _ _, L6.at_.sx, a5.fr.mono sm6⟩
        exact .inl ⟨ok1.stop (Γ.blk scope sB5 HB5 C5 cl5 fp5 F6 μ6 H6) rfl _ F6 δ3 μ6 σ3 H6 sm6 aI hSj (Nat.le_refl _), F6, acc6, μ6, L6, ie acc6 μ6 hI1⟩
  · have e : i = ds.length := by omega
    subst e
    refine .inl ⟨ok.stop Γ rfl _ F' δ μ' σ H' L.sm L.at_ hSi (Nat.le_refl _), ?_⟩
    obtain ⟨ws, h1, h2⟩ := L.ls
    have sF := same_upd (o := HO.lst ws) L.f
    have ah := L.at_
    have a2 : At Γ (upd F' Da (.lst ws)) δ μ' σ H' := by
      refine ⟨⟨ah.st.ext.trans sF, ah.st.keep, fun b u h hn => ?_, ah.st.cell⟩, ⟨fun b u h => ?_, fun c hc => ?_, ah.sx.nd, fun c hc => (ah.sx.cells c hc).mono sF rfl⟩, ah.fr.mono sF⟩
      · by_cases q : b = Da
        · rw [q]; exact h0D
        · rw [upd_ne q] at h; exact ah.st.new b u h hn
      · by_cases q : b = Da
        · rw [q, upd_same] at h; rw [q, ← h]; exact h1
        · rw [upd_ne q] at h; exact ah.sx.sub _ _ h
      · rw [upd_ne (fun e => L.m (by rw [← e]; exact List.mem_map.mpr ⟨c, hc, rfl⟩))]; exact ah.sx.off c hc
    exact ⟨_, .lst acc, μ', s1.trans (L.sm.trans sF), a2, dpl upd_same (h2.mono sF), acc, rfl, hd acc μ' hI⟩
theorem ed_lc2 {own : List (Str × Nat)} {Q : D → Mu → Prop} (own_ : List (Str × Nat)) (e : own = own_) (hc : Γ.X.calm = true) (hN : Γ.X.N.Nodup) (ok : BlkOk Γ.X.N Γ.X.env.scope scope own) (hv : ∀ i ∈ vs1, i ∈ own.map (·.2)) (h : lcd2 Γ elt tg iter ifs tg1 iter1 ifs1 scope (own.map (·.2)) vs1 δ μ fun ds μ' => Q (.lst ds) μ')
    (hs : ∀ x, foldedSetIterable iter Γ.X.env x = pure x := by intro _; rfl) (hs1 : ∀ env x, foldedSetIterable iter1 env x = pure x := by intro _ _; rfl) : ed Γ (.ListComp elt [⟨tg, iter, ifs, 0⟩, ⟨tg1, iter1, ifs1, 0⟩] scope pos) δ μ Q := fun F σ H a =>
  we_mono (we_of (pe_lc2 hc hN pi_wi ok hv pg_wgB pts_wtB pi_wiB pg_wgB pts_wtB pe_weB hs hs1) (lcd2_run h F σ H a)) fun v H' ⟨F', d, μ', s, a', r, ds, e, q⟩ => ⟨F', d, μ', s, a', r, by rw [e]; exact q⟩
end
end PD
/-! PD32: *d of a dict; int(x), parts of slices as tests; other small rules. -/
namespace PD
open PySem PySem.Spec PyProof.Rows L2
end PD
/-! PD33: properties read. -/
namespace PD
open PySem PySem.Spec PyProof.Rows L2
end PD
/-! PD34: len of an own thing; own [ ]. -/
namespace PD
open PySem PySem.Spec PyProof.Rows L2
section
variable {Γ : Ct} {δ : Dl} {μ : Mu} {Q : D → Mu → Prop} {k j n : Nat} {f C : Addr} {sp : SpD} {x y : D}
theorem cld_lenOwn (m : Meth Γ.X.K C "__len__" f) (hx : InsC C x μ) (Cd : CallD Γ.X.prog Γ.X.w Γ.X.K Γ.X.mg Γ.X.base k f 1 [] sp) (hr : Room j Γ.X.A) (hkj : k + 1 ≤ j)
    (h : sp [x] μ (fun d μ' => ∃ i : Int, d = .int i ∧ (0 ≤ i ∧ i < 2 ^ 62) ∧ Q (.int i) μ') fun _ _ _ _ => False) : cld Γ (.builtin "len") [x] δ μ Q := fun F σ H vs a r0 pins s σ' us I q1 => by
  obtain ⟨vx, ws, rfl, r1, r2⟩ := r0.uncons
  obtain rfl := r2.unnil
  obtain ⟨u, rfl, ru⟩ := q1.one
  obtain ⟨p, dx, od, rfl, rfl, _, J⟩ := own_here hx a r1 I ru
  obtain ⟨mm, hF⟩ := I.fr
  have z := cd_deep Cd (hr.mono hkj).in1 I.env0.in1 I a (ds := [x]) (us := [Value.ref p]) (Dps.cons r1 Dps.nil) (.cons rfl .nil) rfl h
  refine PySem.W.len_K hF I.ok.mod.kin J m.at_ m.fn (wpAny_mono z (fun w s' z => ?_) fun _ _ x => x)
  obtain ⟨z', H', I', rz, F', d, μ', s1, a', rd, i, rfl, hi, q⟩ := z
  have e := dpI rd
  subst e
  obtain ⟨t, rfl⟩ := (show ∃ t, w = Value.int i t from rz)
  exact ⟨⟨hi.1, by omega⟩, .int i, H', I'.tok _, ⟨_, rfl⟩, F', _, μ', s1, a', rd, q⟩
end
end PD
/-! PD35: numbers in lists: pop at a place, count, index, in; list(range(n)). -/
namespace PD
open PySem PySem.Spec PyProof.Rows L2
section
variable {Γ : Ct} {δ : Dl} {μ μ1 μ2 : Mu} {Q : D → Mu → Prop} {p : Addr}
theorem opd_inI {n : Int} {y : D} {xs : List D} (ns : List Int) (hs : SeqD μ y xs) (e : xs = ns.map .int) (q : Q (.bl (decide (n ∈ ns))) μ) : opd Γ (compareOp .In) (.int n) y δ μ Q := by
  subst e; exact opd_in hs rfl (PD.flat_ints ns) (by rw [inD_int]; exact q)
theorem opd_notInI {n : Int} {y : D} {xs : List D} (ns : List Int) (hs : SeqD μ y xs) (e : xs = ns.map .int) (q : Q (.bl (!decide (n ∈ ns))) μ) : opd Γ (compareOp .NotIn) (.int n) y δ μ Q := by
  subst e; exact opd_notIn hs rfl (PD.flat_ints ns) (by rw [inD_int]; exact q)
end
theorem ga_same {K K' : PySem.W.Frag} {x : Str} (h : K = K') : He.ga K x = He.ga K' x := by rw [h]
end PD
/-! PD36: own [ ] that may raise. -/
namespace PD
open PySem PySem.Spec PyProof.Rows L2
end PD
/-! PD37: try .. except X: raise C(e) from None. -/
namespace PD
open PySem PySem.Spec PyProof.Rows L2
/-- what may leave a def goes on by its own way out -/
def OutOf (X : Cx) : Prop := ∃ (K : Value → Shared → Prop) (E₁ : Value → Shared → Prop), X.xe = fun e s' => wpAny (model X.prog X.w) X.A (leaving X.env e) (fun _ s'' => K e s'') E₁ s'
theorem OutOf.at_ {X : Cx} (o : OutOf X) (hd : Option Value) : PassesOwnAt (model X.prog X.w) (X.A.mark hd) X.A X.env X.xe := by
  obtain ⟨K, E, e⟩ := o
  exact L2H.passesAt_of e hd
theorem OutOf.here {X : Cx} (o : OutOf X) (hd : Option Value) : PassesOwn (model X.prog X.w) (X.A.mark hd) X.env X.xe := by
  obtain ⟨K, E, e⟩ := o
  rw [e]
  exact PassesOwnAt.leavingOf (SameStack.mark X.A hd)
/-- the context of an except suite that raises -/
@[reducible] def Ct.suiteX (Γ : Ct) (a : Addr) (pn : List (Addr × Obj)) (tk : L2.Takes (L2H.suiteX Γ.X a pn) (WofD Γ.X.K Γ.F0 Γ.μ0 Γ.H0 Γ.W)) (o : OutOf Γ.X) : Ct := ⟨L2H.suiteX Γ.X a pn, Γ.F0, Γ.μ0, Γ.H0, Γ.W, false, tk, o.here _⟩
end PD
/-! PD38: repr of plain data. -/
namespace PD
open PySem PySem.Spec PyProof.Rows L2
end PD
/-! PD39: displays of dicts with keys that are numbers and texts. -/
namespace PD
open PySem PySem.Spec PyProof.Rows L2
end PD
/-! PD40: xs.extend(tuple). -/
namespace PySem
end PySem
namespace PD
open PySem PySem.Spec PyProof.Rows L2
end PD
/-! PD41: slices with steps, slice objects handed to own [ ]. -/
namespace PDS
open PySem PySem.Spec PyProof.Rows
end PDS
/-! ### the class of a slice object -/
namespace PDS
open PySem
end PDS
namespace PD
open PySem PySem.Spec PyProof.Rows L2 PDS
/-- a part of a slice: None or a number -/
def PartD (d : D) (o : Option Int) : Prop := (d = .non ∧ o = none) ∨ ∃ i, d = .int i ∧ o = some i
def ep (Γ : Ct) (e : Option Expr) (δ : Dl) (μ : Mu) (Q : Option Int → Mu → Prop) : Prop := match e with
  | none => Q none μ
  | some e => ed Γ e δ μ fun d μ' => ∃ o, PartD d o ∧ Q o μ'
end PD
/-! PD42: own [ ] with slices. -/
namespace PD
open PySem PySem.Spec PyProof.Rows L2 PDS
/-! ### what a slice takes -/
end PD
/-! PD43: match on a text, with texts and _ as patterns. -/
namespace PD
open PySem PySem.Spec PyProof.Rows L2
end PD
/-! PD44: instances that stay owned. -/
namespace PD
open PySem PySem.Spec PyProof.Rows L2
end PD
/-! PD45: o.f op= e, o owned. -/
namespace PD
open PySem PySem.Spec PyProof.Rows L2
end PD
/-! PD46: list(d.values()), list(d.items()). -/
namespace PD
open PySem PySem.Spec PyProof.Rows L2
end PD
/-! PD47: cells in another order. -/
namespace PD
end PD
/-! PD48: a call of an own thing that has __call__. -/
namespace PD
open PySem PySem.Spec PyProof.Rows L2
end PD
/-! PD49: a text no times or once. -/
namespace PD
open PySem PySem.Spec PyProof.Rows L2
end PD
/-! PD50: a comprehension without a condition: as many things as there were. -/
namespace PD
open PySem PySem.Spec PyProof.Rows L2
section
variable {Γ : Ct} {elt tg iter : Expr} {ifs : List Expr} {scope : Scope} {vs : List Nat} {δ : Dl} {μ : Mu} {Q : List D → Mu → Prop}
theorem lcd_allN (W : Mu → Prop) (R : D → Prop) (h : eid Γ tg iter δ μ fun ds S μ1 => ds.length ≤ 1000000 ∧ W μ1 ∧ (∀ μ', W μ' → S μ') ∧
      (∀ d ∈ ds, ∀ μ', W μ' → allB Γ scope fun Γb => gv Γb tg d vs (wipeD δ vs) μ' fun δ2 μ2 => allB Γ scope fun Γc => eif Γc ifs δ2 μ2 fun b μ3 => b = true ∧ allB Γ scope fun Γd => ed Γd elt δ2 μ3 fun r μ4 => R r ∧ W μ4) ∧
      ∀ acc μ', (∀ r ∈ acc, R r) → acc.length = ds.length → W μ' → Q acc μ') : lcd Γ elt tg iter ifs scope vs δ μ Q := fun F σ H a => wi_mono (h F σ H a) fun J H1 ⟨F1, ds, S, μ1, s1, a1, ok, hz, hW, hS, hb, hq⟩ => by
  refine ⟨F1, ds, S, μ1, s1, a1, ok, hz, fun i acc μ' => (∀ r ∈ acc, R r) ∧ acc.length = i ∧ W μ', ⟨fun _ z => (List.not_mem_nil z).elim, rfl, hW⟩, fun i acc μ' _ z => ⟨hS μ' z.2.2, Nat.le_of_eq z.2.1⟩, ?_, fun acc μ' z => hq acc μ' z.1 z.2.1 z.2.2⟩
  rintro i d acc μ' hd ⟨z1, z2, z3⟩
  intro s H C cl fp F0 μ0 H0 F2 σ2 H2 v a2 r2
  refine wg_mono (hb d (List.mem_of_getElem? hd) μ' z3 s H C cl fp F0 μ0 H0 F2 σ2 H2 v a2 r2) fun σ3 H3 ⟨w3, F3, δ3, μ3, s3, a3, q3⟩ => ⟨w3, F3, δ3, μ3, s3, a3, ?_⟩
  intro s' H' C' cl' fp' F0' μ0' H0'
  have key : ∀ {b : Bool} {μ4 : Mu}, (b = true ∧ allB Γ scope fun Γd => ed Γd elt δ3 μ4 fun r μ5 => R r ∧ W μ5) →
      if b = true then allB Γ scope fun Γd => ed Γd elt δ3 μ4 fun r μ5 => (∀ r' ∈ acc ++ [r], R r') ∧ (acc ++ [r]).length = i + 1 ∧ W μ5 else (∀ r' ∈ acc, R r') ∧ acc.length = i + 1 ∧ W μ4 := by
    rintro b μ4 ⟨rfl, z⟩
    intro s2 H2' C2 cl2 fp2 F02 μ02 H02 F5 σ5 H5 a5
    refine we_mono (z s2 H2' C2 cl2 fp2 F02 μ02 H02 F5 σ5 H5 a5) fun v' H6 ⟨F6, r, μ6, s6, a6, r6, q1, q2⟩ => ⟨F6, r, μ6, s6, a6, r6, fun r' hr' => ?_, by rw [List.length_append, z2]; rfl, q2⟩
    rcases List.mem_append.mp hr' with e | e
    · exact z1 r' e
    · rw [List.mem_singleton.mp e]; exact q1
  have q4 := q3 s' H' C' cl' fp' F0' μ0' H0'
  match ifs, q4 with
  | [], q4 => exact key (b := true) (μ4 := μ3) q4
  | [c], q4 => exact fun F5 σ5 H5 a5 => wt_mono (q4 F5 σ5 H5 a5) fun b H6 ⟨F6, μ6, s6, a6, q6⟩ => ⟨F6, μ6, s6, a6, key q6⟩
end
end PD
/-! PD51: sorted(set(..)) of many ints with few members. -/
namespace PD
open PySem PySem.Spec PyProof.Rows L2
end PD
/-! PD52: a call of an own thing that has __call__, told by any expression. -/
namespace PD
open PySem PySem.Spec PyProof.Rows L2
end PD
/-! PD53: sorted of a list of texts, of ints. -/
namespace PD
open PySem PySem.Spec PyProof.Rows L2
/-! two ascending lists of the same texts are the same -/
end PD
/-! PD54: dict comprehensions. -/
namespace PD
open PySem PySem.Spec PyProof.Rows L2
section
variable {Γ : Ct} {kx vx tg iter : Expr} {ifs : List Expr} {scope : Scope} {own : List (Str × Nat)} {pos : Pos} {δ : Dl} {μ : Mu}
theorem KVd.mono {K : PySem.W.Frag} {F F' : Hp} {kvs : Dic} {gs : List (Key × V)} (h : KVd K F kvs gs) (s : Same F F') : KVd K F' kvs gs := kvd_of h.keys (h.vals.mono s)
structure DcAt (Γ : Ct) (F1 : Hp) (δ : Dl) (σ : L2.St) (Da : Addr) (acc : Dic) (μ : Mu) (H F : Hp) : Prop where
  sm : Same F1 F
  at_ : At Γ F δ μ σ H
  ls : ∃ gs, H Da = some (.dK gs) ∧ KVd Γ.X.K F acc gs
  f : F Da = none
  m : Da ∉ dom μ
theorem DcAt.step {F1 F F2 H H2 : Hp} {σ : L2.St} {Da : Addr} {acc : Dic} {μ μ2 : Mu} (L : DcAt Γ F1 δ σ Da acc μ H F) (st : Step F μ H F2 μ2 H2) (sx : Sx Γ.X.K F2 μ2 H2) : DcAt Γ F1 δ σ Da acc μ2 H2 F2 := by
  obtain ⟨vs, h1, h2⟩ := L.ls
  refine ⟨L.sm.trans st.ext, ⟨L.at_.st.trans st, sx, L.at_.fr.mono st.ext⟩, ⟨vs, st.keep _ _ h1 L.m, h2.mono st.ext⟩, ?_, fun hm => ?_⟩
  · cases e : F2 Da with
    | none => rfl
    | some o =>
      rcases st.new _ _ e L.f with q | q
      · rw [h1] at q; cases q
      · exact absurd q L.m
  · rcases st.cell _ hm with q | q
    · exact L.m q
    · rw [h1] at q; cases q
end
end PD
/-! PD55: what the top has written, looked at in pieces. -/
namespace PD
open PySem PySem.Spec PyProof.Rows L2 PySem.W HandSHeadRun
/-- what the top has written, seen at told addresses -/
def obsL (as : List Addr) (fa : List He.Fa) (fn : List He.DefD) (fx : List He5.DefA) (ts : List He.Tab) (ex : PySem.W.Frag → Bool) (g : Addr → Option Obj) : AlP := sayP fa fn fx ts ex (He.frT g as)
def hookL (as : List Addr) (fa : List He.Fa) (fn : List He.DefD) (fx : List He5.DefA) (ts : List He.Tab) (ex : PySem.W.Frag → Bool) : PySem.W.Hook where
  α := AlP
  obs := fun s => obsL as fa fn fx ts ex s.heap.get?
  val := fun w => valP fn fx ts w
  says := fun w h => ∃ K : PySem.W.Frag, K.In h ∧ sayP fa fn fx ts ex K = valP fn fx ts w
  of := fun _ _ e => ⟨_, He.frT_in, e⟩
  keeps := fun _ _ _ ⟨K, hK, c⟩ k => ⟨K, PySem.W.Frag.In.keeps hK k, c⟩
theorem obsL_eq {as : List Addr} {fa : List He.Fa} {fn : List He.DefD} {fx : List He5.DefA} {ts : List He.Tab} {ex : PySem.W.Frag → Bool} {g : Addr → Option Obj} {s : Shared} (h : ∀ a, g a = s.heap.get? a) : obsL as fa fn fx ts ex g = (hookL as fa fn fx ts ex).obs s := by
  have e : g = s.heap.get? := funext h
  rw [e] <;> rfl
end PD
/-! PD56: zip of two lists, dict of pairs, == of dicts of ints, names two blocks deep. -/
namespace PD
open PySem PySem.Spec PyProof.Rows L2
/-! ### names two blocks deep -/
end PD
/-! PD57: d.update(another dict). -/
namespace PD
open PySem PySem.Spec PyProof.Rows L2
end PD
/-! PD58: x or y of None or a tuple with something in it. -/
namespace PD
open PySem PySem.Spec PyProof.Rows L2
end PD
/-! PD59: own `op=` by the class's own method. -/
namespace PD
open PySem PySem.Spec PyProof.Rows L2
end PD
/-! PD60: != of two sets of ints. -/
namespace PD
open PySem PySem.Spec PyProof.Rows L2
/-! ### in the layer -/
end PD
/-! PD61: slices of a list that is still held. -/
namespace PD
open PySem PySem.Spec PyProof.Rows L2
end PD
/-! PD62: != [] of a list that is still held. -/
namespace PD
open PySem PySem.Spec PyProof.Rows L2
end PD
/-! PD63: str of a tuple or a list of plain data; how long what is shown may be. -/
namespace PD
open PySem PySem.Spec PyProof.Rows L2
end PD
/-! PD64: for p in d.items(), p one name: each pair a tuple of its own. -/
namespace PD
open PySem PySem.Spec PyProof.Rows L2 PySem.W
end PD
/-! PD65: a dict that is locked behind an expression, for good. -/
namespace PD
open PySem PySem.Spec PyProof.Rows L2 PySem.W
end PD
/-! PD66: where a token is out: text.replace(old, new) of written texts. -/
namespace PD
open PySem PySem.Spec PyProof.Rows L2
end PD
/-! PD67: == of dicts whose values are ints or None. -/
namespace PD
open PySem PySem.Spec PyProof.Rows L2 PySem.W
end PD
/-! PD68: try .. except X as n: raise C(e) from n. -/
namespace PD
open PySem PySem.Spec PyProof.Rows L2
/-- the record behind «from»: the cause, and that the context is not told -/
def fromO (o : Obj) (c : Value) : Obj := (o.mapFields fun vs => vs.setIfInBounds 3 c).mapFields fun vs => vs.setIfInBounds 4 (.bool true)
def fromH (h : Heap) (a : Addr) (c : Value) : Heap := (h.update a (Obj.mapFields fun vs => vs.setIfInBounds 3 c)).update a (Obj.mapFields fun vs => vs.setIfInBounds 4 (.bool true))
theorem fromH_at {h : Heap} {a : Addr} {oe : Obj} {vs : Array Value} {c : Value} (g : h.get? a = some oe) (d : oe.data = .fields vs) :
    ((h.update a (Obj.mapFields fun vs => vs.setIfInBounds 3 c)).get? a = some (oe.mapFields fun vs => vs.setIfInBounds 3 c) ∧ (oe.mapFields fun vs => vs.setIfInBounds 3 c).data = .fields (vs.setIfInBounds 3 c)) ∧ (fromH h a c).get? a = some (fromO oe c) ∧ (fromO oe c).data = .fields ((vs.setIfInBounds 3 c).setIfInBounds 4 (.bool true)) := by
  have d3 := Obj.data_mapFields d fun vs => vs.setIfInBounds 3 c
  have g3 := Heap.get?_update_self (Obj.mapFields fun vs => vs.setIfInBounds 3 c) g (Obj.isFreed_of_fields d3)
  have d4 := Obj.data_mapFields d3 fun vs => vs.setIfInBounds 4 (.bool true)
  exact ⟨⟨g3, d3⟩, Heap.get?_update_self _ g3 (Obj.isFreed_of_fields d4), d4⟩
theorem fromH_ne {h : Heap} {a b : Addr} {c : Value} (n : a ≠ b) : (fromH h a c).get? b = h.get? b := by
  show ((h.update a _).update a _).get? b = _
  rw [Heap.get?_update_other _ _ n, Heap.get?_update_other _ _ n]
/-- the context of an except suite that may raise, its exceptions met by E -/
abbrev sufX (X : Cx) (a : Addr) (pn : List (Addr × Obj)) (E : Value → Shared → Prop) : Cx := { X with A := X.A.mark (some (.ref a)), calm := false, pn := pn, xe := E }
end PD
/-! PD69: raise .. from in a suite whose exception has a context of its own. -/
namespace PD
open PySem PySem.Spec PyProof.Rows L2
/-- a context that the new exception at a does not close to a circle -/
def Chain (h : Heap) (a : Addr) (c : Value) : Prop := c = .none ∨ ∃ (x : Addr) (o : Obj) (vs : Array Value), c = .ref x ∧ h.get? x = some o ∧ o.data = .fields vs ∧ vs[2]? = some .none ∧ x ≠ a
section
variable {prog : Program} {w : World} {A : Around} {E : Value → Shared → Prop} {s : Shared}
theorem unchainM {x1 a : Addr} {o1 : Obj} {v1 : Array Value} {c : Value} {Q : Value → Shared → Prop} (g1 : s.heap.get? x1 = some o1) (d1 : o1.data = .fields v1) (f1 : v1[2]? = some c) (hc : Chain s.heap a c) (q : Q .none s) :
    wpAny (model prog w) A (holding [Value.ref a] (runValue (.builtin "proto.unchain" ⟨[.ref a, .ref x1, .ref x1, .bool false], []⟩))) Q E s := by
  rcases hc with rfl | ⟨x, o, vs, rfl, g2, d2, f2, nx⟩
  · exact HotX.unchained g1 d1 f1 q
  · have n1 : x ≠ x1 := fun e => by
      subst e
      rw [g1] at g2
      cases g2
      rw [d1] at d2
      cases d2
      rw [f1] at f2
      cases f2
    refine wpAny_holding (wpAny_runValue (codeAny_builtin HotX.entry_unchain ?_))
    show wpAny _ _ (field (.ref x1) 2 >>= _) _ _ s
    refine wpAny_bind (wpAny_field g1 d1 f1 ?_)
    rw [if_neg (show ¬ ((Value.ref x == Value.none) = true) from by simp)]
    have b1 : ¬ ((Value.ref x == Value.ref a) = true) := by simp [nx]
    have b2 : ¬ ((Value.ref x == Value.ref x1) = true) := by simp [n1]
    rw [if_neg b1, if_neg b2]
    dsimp only
    rw [if_neg (by decide)]
    refine wpAny_bind (wpAny_pure ?_)
    unfold again
    refine wpAny_pure ⟨plainId_quiet (by decide +kernel) _, codeAny_builtin HotX.entry_unchain ?_⟩
    show wpAny _ _ (field (.ref x) 2 >>= _) _ _ s
    refine wpAny_bind (wpAny_field g2 d2 f2 ?_)
    rw [if_pos (show (Value.none == Value.none) = true from rfl)]
    first
    | exact wpAny_bind (wpAny_pure (wpAny_pure q))
    | exact wpAny_pure q
theorem raiseNewM {α : Type} {a x1 : Addr} {oe o1 : Obj} {vs v1 : Array Value} {c : Value} {Q : α → Shared → Prop} (hh : A.handled = some (.ref x1)) (g1 : s.heap.get? x1 = some o1) (d1 : o1.data = .fields v1) (f1 : v1[2]? = some c) (hc : Chain s.heap a c) (ne : x1 ≠ a)
    (ga : s.heap.get? a = some oe) (da : oe.data = .fields vs) (hi : 2 < vs.size) (hE : E (.ref a) { s with heap := s.heap.update a (Obj.mapFields (·.setIfInBounds 2 (.ref x1))) }) : wpAny (model prog w) A (raiseNew (.ref a) : Sem α) Q E s := by
  unfold raiseNew
  refine wpAny_bind (wpAny_handled ?_)
  rw [hh]
  have hb : (Value.ref x1 != Value.ref a) = true := HotX.ref_bne ne
  first
  | (show wpAny _ _ (if (Value.ref x1 != Value.ref a) = true then _ else _) _ _ _
     rw [if_pos hb]
     first
     | exact wpAny_bind (unchainM g1 d1 f1 hc (wpAny_bind (HotX.chained ga da hi (wpAny_throw hE))))
     | exact wpAny_bind (wpAny_bind (unchainM g1 d1 f1 hc (HotX.chained ga da hi (wpAny_throw hE)))))
  | (refine wpAny_bind ?_
     show wpAny _ _ (if (Value.ref x1 != Value.ref a) = true then _ else _) _ _ _
     rw [if_pos hb]
     exact wpAny_bind (unchainM g1 d1 f1 hc (HotX.chained ga da hi (wpAny_throw hE))))
end
/-- raise .. from: the cause cz is None or the exception x1 that is handled, whose context is c1 -/
theorem raise_fromM {prog : Program} {w : World} {A : Around} {E : Value → Shared → Prop} {env : Env} {s : Shared} {x c : Sem Value} {Q : Flow → Shared → Prop} {x1 : Addr} {cz : Value} (hcz : cz = .none ∨ cz = .ref x1)
    (h : wpAny (model prog w) A x (fun v s1 => ∃ a oe vs cls o1 v1 c1, v = .ref a ∧ s1.heap.get? a = some oe ∧ oe.cls = cls ∧ oe.data = .fields vs ∧ vs[1]? = some .none ∧ 4 < vs.size ∧ x1 ≠ a ∧ A.handled = some (.ref x1) ∧ s1.heap.get? x1 = some o1 ∧ o1.data = .fields v1 ∧ v1[2]? = some c1 ∧ Chain s1.heap a c1 ∧
      (∀ Q' : Value → Shared → Prop, Q' cz s1 → wpAny (model prog w) A c Q' E s1) ∧
      PySem.W.Looks (model prog w) s1.heap (isSubtype cls (.type "BaseException")) true ∧ (cz = .ref x1 → PySem.W.Looks (model prog w) s1.heap (isSubtype o1.cls (.type "BaseException")) true) ∧ PySem.W.Looks (model prog w) (fromH s1.heap a cz) (typeOf cls) (.type "type") ∧
      E (.ref a) { s1 with heap := (fromH s1.heap a cz).update a (Obj.mapFields (·.setIfInBounds 2 (.ref x1))) }) E s) :
    wpAny (model prog w) A (raiseStmt env (some x) (some c)) Q E s := by
  unfold raiseStmt
  dsimp only
  refine wpAny_bind (wpAny_mono h (fun v s1 z => ?_) fun _ _ y => y)
  obtain ⟨a, oe, vs, cls, o1, v1, c1, rfl, ga, hcls, da, f1, n4, ne, hh, g1, d1, fc, hch, hc, L1, Lc, L3, hE⟩ := z
  have LA : PySem.W.Looks (model prog w) s1.heap (typeOf (.ref a)) cls := fun A Q E s k q => wpAny_typeOf_ref (k _ _ ga) (by rw [hcls]; exact q)
  have LB : PySem.W.Looks (model prog w) s1.heap (typeOf (.ref x1)) o1.cls := fun A Q E s k q => wpAny_typeOf_ref (k _ _ g1) q
  have notT : ∀ {b : Addr} {ob : Obj} {vb : Array Value} {s' : Shared} {Q' : Bool → Shared → Prop}, s'.heap.get? b = some ob → ob.data = .fields vb → Q' false s' → wpAny (model prog w) A (isType (.ref b)) Q' E s' := by
    intro b ob vb s' Q' gb db q
    simp only [isType, loadHead]
    refine wpAny_bind (wpAny_loadPart gb ?_)
    rw [db]; exact wpAny_pure q
  obtain ⟨⟨g3, d3⟩, g4, d4⟩ := fromH_at (c := cz) ga da
  have s3 : 3 < vs.size := by omega
  have s4 : 4 < (vs.setIfInBounds 3 cz).size := by rw [HotX.set_size]; exact n4
  have s2 : 2 < ((vs.setIfInBounds 3 cz).setIfInBounds 4 (Value.bool true)).size := by rw [HotX.set_size, HotX.set_size]; omega
  have f14 : ((vs.setIfInBounds 3 cz).setIfInBounds 4 (Value.bool true))[1]? = some Value.none := HotX.set_other (by decide) (HotX.set_other (by decide) f1)
  have k4 : (fromO oe cz).cls = cls := by unfold fromO; rw [Obj.cls_mapFields, Obj.cls_mapFields]; exact hcls
  have LD : PySem.W.Looks (model prog w) (fromH s1.heap a cz) (typeOf (.ref a)) cls := fun A Q E s k q => wpAny_typeOf_ref (k _ _ g4) (by rw [k4]; exact q)
  have ch4 : Chain (fromH s1.heap a cz) a c1 := by
    rcases hch with rfl | ⟨y, o, vy, rfl, gy, dy, fy, ny⟩
    · exact .inl rfl
    · exact .inr ⟨y, o, vy, rfl, by rw [fromH_ne (Ne.symm ny)]; exact gy, dy, fy, ny⟩
  have rest : wpAny (model prog w) A (do
      let b ← isType (.ref a)
      if b = true then do
        let e ← holding [.ref a] (raisedFor (.ref a) (.ref a))
        setFlight e none
        raiseNew e
      else do
        let e ← raisedInstance (.ref a)
        setFlight e none
        raiseNew e : Sem Flow) Q E { s1 with heap := fromH s1.heap a cz } := by
    refine wpAny_bind (notT g4 d4 ?_)
    simp only [Bool.false_eq_true, if_false]
    unfold raisedInstance
    refine wpAny_bind (wpAny_bind (LD.here (wpAny_bind (L3.here ?_))))
    rw [if_pos (beq_self_eq_true _)]
    refine wpAny_pure ?_
    unfold setFlight
    refine wpAny_bind (wpAny_bind (wpAny_field g4 d4 f14 ?_))
    rw [if_neg (by decide)]
    refine wpAny_pure ?_
    exact raiseNewM hh (by rw [fromH_ne (Ne.symm ne)]; exact g1) d1 fc ch4 ne g4 d4 s2 hE
  refine wpAny_bind (wpAny_holding (hc _ (wpAny_bind (wpAny_pure ?_))))
  dsimp only
  refine wpAny_bind (wpAny_holding ?_)
  unfold excFromValue isExcClass
  refine wpAny_bind (wpAny_bind (notT ga da ?_))
  simp only [Bool.false_eq_true, if_false]
  refine wpAny_pure ?_
  simp only [Bool.false_eq_true, if_false]
  refine wpAny_bind ((LA.andThen L1).here ?_)
  simp only [if_true]
  refine wpAny_pure ?_
  rcases hcz with rfl | rfl
  · rw [if_pos (show (Value.none == Value.none) = true from rfl)]
    refine wpAny_bind (wpAny_pure (wpAny_bind (wpAny_setField ga da s3 (wpAny_bind (wpAny_setField g3 d3 s4 ?_)))))
    exact rest
  · rw [if_neg (show ¬ ((Value.ref x1 == Value.none) = true) from by simp)]
    refine wpAny_bind (wpAny_holding ?_)
    refine wpAny_bind (wpAny_bind (notT g1 d1 ?_))
    simp only [Bool.false_eq_true, if_false]
    refine wpAny_pure ?_
    simp only [Bool.false_eq_true, if_false]
    refine wpAny_bind ((LB.andThen (Lc rfl)).here ?_)
    simp only [if_true]
    refine wpAny_pure ?_
    refine wpAny_bind (wpAny_setField ga da s3 (wpAny_bind (wpAny_setField g3 d3 s4 ?_)))
    exact rest
/-! ### a def stepped through where any exception is handled -/
structure FnX (P : Program) (w : World) (K : PySem.W.Frag) (mg : Str → Option Value) (base : Heap) (CX : CXT) (k : Nat) (f : Addr) (fd : FuncData) (ps : List Str) (sp : Sp) : Prop where
  len : ∀ vs H Q E, sp vs H Q E → vs.length = ps.length
  run : ∀ (A : Around) (outer : List Env) (s : Shared) (H : Hp) (args : Args) (us : List Value) (vs : List V) (Q : VK) (E : XK) (p : Addr × Obj), L2H.RoomH k A → L2H.PinOk outer H s p → Env0 P w K mg base A outer s H → BindsTo s fd args (ps.zip us) → Vals vs us → sp vs H Q E →
    codeAny (model P w) A (.call (.ref f) args) (CR CX outer P w H s Q E) s
theorem okX {P : Program} {w : World} {K : PySem.W.Frag} {mg : Str → Option Value} {base : Heap} {CX : CXT} {k : Nat} {f : Addr} {fd : FuncData} {ps : List Str} {sp : Sp} {x qual : Str} {params : Arguments} {body : List Stmt} {scope : Scope} {dvs : List V} {kws : List (Str × V)} {N : List Str}
    (F : FunD K x qual params body scope dvs kws f fd) (S : FnScope N ps scope) (len : ∀ vs H Q E, sp vs H Q E → vs.length = ps.length)
    (hb : ∀ (cdv : Value) (A : Around) (outer : List Env) (s : Shared) (H : Hp) (vs : List V) (Q : VK) (E : XK) (p : Addr × Obj), sp vs H Q E → ∃ t, PSs (L2H.cxH CX P w K mg base N qual scope f cdv A outer s H E p) body t ∧ t { nx := fun _ H' => Q .non H', rt := Q } (L2.start N vs) H) :
    FnX P w K mg base CX (k + 1) f fd ps sp := by
  obtain ⟨oc, od, dV, kV, doc, pm, an, cdv, ct, osl, rfl, look, code, _, _⟩ := F.ex
  refine ⟨len, fun A outer s H args us vs Q E p room pin e0 bound rel want => ?_⟩
  have kin : K.In s.heap := e0.mod.kin.keeps fun c o e => (e0.bs c o e).1
  have kinds : ∀ y ∈ ps.zip us, scope.names.lookup y.1 = some .local ∨ (scope.names.lookup y.1 = some .cell ∧ ((cellsFrom (s.heap.objs.size + 1) scope.names []).lookup y.1).isSome = true) := by
    rintro ⟨y, u⟩ hy
    exact (S.par y (List.of_mem_zip hy).1).imp id fun q => ⟨q, PySem.W.cellsFrom_some _ _ _ (.inl q)⟩
  refine codeAny_call_function room.depth (kin _ _ look) rfl S.co S.gen rfl (PySem.W.codeRec_of kin code) (bound _ _ _ _ (wpAny_newFunctionEnv_cells S.kind kinds fun env ee s1 y => ?_))
  cases ee
  refine ⟨(e0.mod.nolimit.keeps fun c o e => (e0.bs c o e).1).keeps y.toInCall.keep, codeAny_func ?_⟩
  obtain ⟨t, ht, q⟩ := hb cdv A outer s H vs Q E p want
  refine wpAny_mono (ht.run [] s1 (L2.start N vs) H _ (L2H.inv_startH S pin e0 (len _ _ _ _ want) rel y) q) (fun res s' z => ?_) fun _ _ z => z
  match res, z with
  | .ret u, ⟨v, _, H', J, rv, q⟩ => exact ⟨v, H', J.os, J.bare, J.base, J.hok, rv, q⟩
  | .next, ⟨_, H', J, q⟩ => exact ⟨V.non, H', J.os, J.bare, J.base, J.hok, rfl, q⟩
  | .brk, ⟨_, _, _, q⟩ => exact q.elim
  | .cont, ⟨_, _, _, q⟩ => exact q.elim
theorem fn_oexX {P : Program} {w : World} {K : PySem.W.Frag} {mg : Str → Option Value} {base : Heap} {B newId initId : String} {tl : List Value} {fl xs xx qual : Str} {params : Arguments} {scope : Scope} {kws : List (Str × V)} {fI : Addr} {fd : FuncData} {N : List Str} {k : Nat} {p1 p2 p3 p4 : Pos} (Z : Bas B newId initId tl) (F : FunD K "__init__" qual params [.Assign [.Attribute (.Name xs p1) fl p2] (.Name xx p3) p4] scope [] kws fI fd) (S : FnScope N [xs, xx] scope) (n0 : Nm N scope 0 xs) (n1 : Nm N scope 1 xx) :
    FnX P w K mg base (L2.CX P w) (k + 1) fI fd [xs, xx] (spOexG newId tl K fl) := by
  refine okX F S (fun vs H Q E h => ?_) (fun cdv A outer s H vs Q E p h => ?_)
  · obtain ⟨a, C, v, rfl, _⟩ := h; rfl
  · obtain ⟨a, C, v, rfl, T, hno, ha, q⟩ := h
    exact ⟨_, pss_one (ps_stFirst Z (pe_var (i := 0) n0.at_ (nm_vis n0) n0.dbg n0.cls) (pe_var (i := 1) n1.at_ (nm_vis n1) n1.dbg n1.cls)), v, rfl, .ref a, rfl, a, C, rfl, T, hno, ha, fun dx h1 h2 => q dx h1 h2⟩
/-- an own exception class that can be made where any exception is handled -/
structure ExcAny (P : Program) (w : World) (K : PySem.W.Frag) (mg : Str → Option Value) (base : Heap) (C : Addr) (fl : Str) : Prop where
  hno : PySem.W.findIn K (.ref C) fl = some none
  ex : ∃ B newId initId tl fI fd ps, Bas B newId initId tl ∧ OexG newId tl K C ∧ PySem.W.findIn K (.ref C) "__init__" = some (some (.ref fI)) ∧ PySem.W.typeIn K (.ref fI) = some (.type "function") ∧ Binds K fd ps [] ∧ FnX P w K mg base (L2.CX P w) 1 fI fd ps (spOexG newId tl K fl)
section
variable {X : Cx} {B newId initId : String} {tl : List Value}
/-- C(e, ..) while any exception is handled; a pinned object stands by -/
theorem pmk_gX {e : Expr} {es : List Expr} {ta : TA} {p pos : Pos} {CX : CXT} {x : Str} {C fI : Addr} {k : Nat} {fd : FuncData} {ps : List Str} {sp : Sp} {pn : Addr × Obj} (Z : Bas B newId initId tl) (T : OexG newId tl X.K C)
    (iC : PySem.W.findIn X.K (.ref C) "__init__" = some (some (.ref fI))) (tI : PySem.W.typeIn X.K (.ref fI) = some (.type "function")) (G : FnX X.prog X.w X.K X.mg X.base CX k fI fd ps sp) (hr : L2H.RoomH (k + 1) X.A) (hpn : pn ∈ X.pn) (hb : Binds X.K fd ps []) (hx : Passes CX X (fun _ _ _ => False))
    (hg : Gl X x) (hm : X.mg x = some (.ref C)) (ha : PA X (e :: es) ta) (hdb : (x == ("__debug__" : Str)) = false) (he : starEach (e :: es) X.env = (false, eval e X.env) :: starEach es X.env) (hpl : (backTo pos (starEach es X.env)).any (·.1) = false) :
    L2H.PMk5 X (.Call (.Name x p) (e :: es) [] pos) (tMkO C sp [] ta) := fun pins s σ H Q I h => by
  obtain ⟨nm, q, N, bs, bm, sn, sub, ab, col, dd, k0, k1, k2, k3, k5, look, tail⟩ := T.cls
  refine wpAny_Call_Name_kw (ld_glob I hg hm (PySem.W.callWith_K (h₀ := X.base) I.ok.mod.kin T.kC (thn (ha.run pos pins s σ H _ I h) fun us s1 ⟨vs, H1, I1, r1, hz, q1⟩ => ⟨I1.kIn, ?_⟩) he hpl) hdb)
  obtain ⟨hp, g, dr, tk, os⟩ := s1
  let n := hp.objs.size
  let hp2 := (hp.push (PySem.W.kdv_tup us)).push (PySem.HandSPX.excO C n)
  have nn : n ≤ n + 1 := Nat.le_succ _
  have want := q1 (n + 1) (I1.hok.fresh nn)
  rw [List.append_nil] at want
  have keep : ∀ b o, hp.get? b = some o → hp2.get? b = some o := fun b o z => Heap.get?_push_of_some _ (Heap.get?_push_of_some _ z)
  have there : hp2.get? (n + 1) = some (PySem.HandSPX.excO C n) := by
    show ((hp.push (PySem.W.kdv_tup us)).push (PySem.HandSPX.excO C hp.objs.size)).get? (hp.objs.size + 1) = _
    heap_get
  have I2 : Inv X pins σ (upd H1 (n + 1) (exo (n + 1) C none)) ⟨hp2, g, dr, tk, os⟩ := I1.laid (t' := tk) (a := n + 1) (o := exo (n + 1) C none) (h' := hp2) keep nn (exo_ok there)
  have rr : Vals (V.ref (n + 1) :: vs) (Value.ref (n + 1) :: us) := .cons rfl r1
  have ln : (Value.ref (n + 1) :: us ++ []).length = ps.length := by
    rw [List.append_nil]
    exact (rr.length.symm.trans (G.len _ _ _ _ want) :)
  have small : us.length ≤ sizeLine := by rw [← Paired.length r1, sizeLine_eq]; omega
  have b2 := hb _ (Value.ref (n + 1) :: us) I2.kIn ln
  rw [List.append_nil] at b2
  have P1 := I2.pin pn (List.mem_append_left _ hpn)
  have hpin : L2H.PinOk X.stack (upd H1 (n + 1) (exo (n + 1) C none)) ⟨hp2, g, dr, tk, os⟩ pn :=
    ⟨P1.1, P1.2.1, fun hmm => (List.mem_cons.mp (I2.stkSub pn.1 hmm)).elim P1.2.2.1 P1.2.2.2.1, P1.2.2.2.2⟩
  have go := G.run _ X.stack _ _ ⟨Value.ref (n + 1) :: us, []⟩ _ _ _ (fun _ _ _ => False) pn (hr.make C us []) hpin (I2.env0.make C us []) b2 rr want
  refine wpAny_call (PySem.HandSPX.call_own Z.F (fun Y => PySem.W.excTail_contains Y bm tail) (I1.kIn _ _ look) (PySem.W.looks_findIn I1.kIn iC) (fun self => PySem.W.bind_fn I1.kIn self tI) small (codeAny_mono go fun res s' z => ?_))
  match res, z with
  | .error er, z => exact hx pins σ _ _ er s' I2 z
  | .ok (.ret u), z =>
    obtain ⟨v, H2, os2, bare2, un2, hok2, rv, rfl, d, fs, ea, ed, hd1, q2⟩ := z
    obtain ⟨h2, g2, d2, t2, os'⟩ := s'
    obtain ⟨t0, G2, J, kG, ge, hoe, na⟩ := mk_end0 (d2 := d2) (t2 := t2) I1 nn keep un2 hok2 os2 bare2 ea ed hd1
    refine ⟨rv, ⟨n + 1, _, _, ⟨G2, g2, d2, t2, os'⟩, _, .ref C, some d, rfl, J, kG, ge, hoe, ⟨rfl, rfl, fun vs hv => by cases hv; rfl⟩, rfl, rfl, na, rfl, bare2, raises_own T.exC T.tyC, q2⟩, fun a oe vs ea2 hg2 hd2 => ?_⟩
    cases ea2
    have hg3 : h2.get? (n + 1) = some oe := hg2
    rw [hoe] at hg3
    cases hg3
    cases hd2
    show (4 : Nat) < 6
    decide
end
/-- what is told of the exception that is handled: it is pinned, and so is its context -/
structure HotM (X : Cx) (p : Addr × Obj) (c0 : Value) : Prop where
  hd : X.A.handled = some (.ref p.1)
  mem : p ∈ X.pn
  fl : ∃ v1 : Array Value, p.2.data = .fields v1 ∧ v1[2]? = some c0
  ch : c0 = .none ∨ ∃ q ∈ X.pn, c0 = .ref q.1 ∧ ∃ vq : Array Value, q.2.data = .fields vq ∧ vq[2]? = some .none
/-- raise C(..) from a cause -/
theorem ps_raiseM {X : Cx} {W : WX} {e cex : Expr} {t : L2.St → Hp → XK → Prop} {R : L2.St → Prop} {pos : Pos} {p : Addr × Obj} {c0 cz : Value} (hot : HotM X p c0) (hcz : cz = .none ∨ cz = .ref p.1)
    (hce : ∀ {pins : List (Addr × Obj)} {σ : L2.St} {H : Hp} {sI s1 : Shared} {E : Value → Shared → Prop} {Q' : Value → Shared → Prop}, Inv X pins σ H sI → (∀ b o, sI.heap.get? b = some o → s1.heap.get? b = some o) → R σ → Q' cz s1 → wpAny (model X.prog X.w) X.A (eval cex X.env) Q' E s1)
    (hr : cz = .ref p.1 → Raises X p.2.cls) (tk : (c0 = .none ∧ TakesM X W) ∨ L2.Takes X W) (he : L2H.PMk5 X e t) : PS X (.Raise (some e) (some cex) pos) (fun _ σ H => t σ H fun cls d H' => R σ ∧ W cls d σ H') := by
  refine ⟨fun pins s σ H D I h => ?_⟩
  obtain ⟨hh, hp, ⟨v1, e1, f1⟩, hch⟩ := hot
  show wpAny _ _ (do standAt pos; raiseStmt X.env (some (do let v ← eval e X.env; standAt pos; pure v)) (some (do let v ← eval cex X.env; standAt pos; pure v))) _ _ _
  refine wpAny_bind (wpAny_standAt (raise_fromM (x1 := p.1) hcz (wpAny_bind (wpAny_mono (he pins s σ H _ I h) (fun u s1 hu => wpAny_bind (wpAny_standAt (wpAny_pure ?_))) fun _ _ y => y))))
  obtain ⟨⟨a, oe, vs, sI, H', cls, d, rfl, J, k, hne, ha, hz, hd2, h1, na, os, ag, r, hs, q⟩, h5⟩ := hu
  have P0 := J.pin p (List.mem_append_left _ hp)
  have P1 := P0.1
  have away : ∀ {b : Addr} {o : Obj}, sI.heap.get? b = some o → b ≠ a := fun {b o} z y => by
    subst y
    rw [hne] at z
    cases z
  have k4 : ∀ b u, sI.heap.get? b = some u → (fromH s1.heap a cz).get? b = some u := fun b u z => by
    rw [fromH_ne (Ne.symm (away z))]
    exact k b u z
  have keep : ∀ b u, sI.heap.get? b = some u → ((fromH s1.heap a cz).update a (Obj.mapFields (·.setIfInBounds 2 (.ref p.1)))).get? b = some u := fun b u z => by
    rw [Heap.get?_update_other _ _ (Ne.symm (away z))]
    exact k4 b u z
  obtain ⟨⟨g3, d3⟩, g4, d4⟩ := fromH_at (c := cz) ha hd2
  have n4 := h5 a oe vs rfl ha hd2
  have f12 : (((vs.setIfInBounds 3 cz).setIfInBounds 4 (Value.bool true)).setIfInBounds 2 (Value.ref p.1))[1]? = some Value.none := HotX.set_other (by decide) (HotX.set_other (by decide) (HotX.set_other (by decide) h1))
  have f22 : (((vs.setIfInBounds 3 cz).setIfInBounds 4 (Value.bool true)).setIfInBounds 2 (Value.ref p.1))[2]? = some (Value.ref p.1) := by
    rw [Array.getElem?_setIfInBounds_self_of_lt]
    rw [HotX.set_size, HotX.set_size]; omega
  have hch1 : Chain s1.heap a c0 := by
    rcases hch with rfl | ⟨y, hy, rfl, vq, e2, f2⟩
    · exact .inl rfl
    · have P2 := (J.pin y (List.mem_append_left _ hy)).1
      exact .inr ⟨y.1, y.2, vq, rfl, k _ _ P2, e2, f2, away P2⟩
  have zc : Zc cls d ((fromO oe cz).mapFields (·.setIfInBounds 2 (.ref p.1))) := by
    unfold fromO
    exact ⟨by rw [Obj.cls_mapFields, Obj.cls_mapFields, Obj.cls_mapFields]; exact hz.1, by rw [HandSPX.dict_mapFields, HandSPX.dict_mapFields, HandSPX.dict_mapFields]; exact hz.2.1⟩
  have d5 := Obj.data_mapFields d4 (·.setIfInBounds 2 (.ref p.1))
  have g5 := Heap.get?_update_self (Obj.mapFields (·.setIfInBounds 2 (.ref p.1))) g4 (Obj.isFreed_of_fields d5)
  refine ⟨a, oe, vs, cls, p.2, v1, c0, rfl, ha, hz.1, hd2, h1, n4, away P1, hh, k _ _ P1, e1, f1, hch1, fun Q' q' => wpAny_bind (hce J k hs (wpAny_bind (wpAny_standAt (wpAny_pure q')))),
    (r _ _ (J.kIn.keeps k)).1, fun y => (hr y _ _ (J.kIn.keeps k)).1, (r _ _ (J.kIn.keeps k4)).2, ?_⟩
  rcases tk with ⟨rfl, tk⟩ | tk
  · refine tk _ _ ⟨a, PySem.W.hideAll sI.heap (frs X.stack), sI, pins, σ, H', cls, d, rfl, J, fun b o z hb => PySem.W.hideAll_get _ z hb, Heap.UpToSlots.of_keeps keep, ⟨.ref p.1, .inr ⟨p.1, p.2, v1, rfl, PySem.W.hideAll_get _ P1 fun hm => ?_, P0.2.1, e1, f1⟩, .inl ⟨fun b o z => keep b o (PySem.W.of_hideAll _ z), ?_, ?_, _, _, g5, ⟨zc, fun vs2 e2 => ?_⟩, d5, f12⟩⟩, na, os, ag, q⟩
    · exact (List.mem_cons.mp (J.stkSub p.1 hm)).elim P0.2.2.1 P0.2.2.2.1
    · cases y : (PySem.W.hideAll sI.heap (frs X.stack)).get? a with
      | none => rfl
      | some o =>
        have y2 := PySem.W.of_hideAll _ y
        rw [hne] at y2; cases y2
    · exact Heap.FunFrames.of_keeps (fun b o z _ => ⟨o, keep b o z, rfl⟩) (funFrames_none J.stack fun b hb => PySem.W.hideAll_none _ hb)
    · rw [d5] at e2
      cases e2
      exact f22
  · exact tk _ _ (XE.new J keep hne g5 zc d5 f12 na os ag q)
end PD
/-! PD70: try .. except whose suite raises, for what flies in either way. -/
namespace PD
open PySem PySem.Spec PyProof.Rows L2
section
variable {X : Cx} {pins l pn' : List (Addr × Obj)} {σ : L2.St} {H : Hp} {s : Shared} {a : Addr}
/-- what a pin asks -/
def PinAt (X : Cx) (H : Hp) (s : Shared) (q : Addr × Obj) : Prop := s.heap.get? q.1 = some q.2 ∧ H q.1 = none ∧ q.1 ≠ X.env.locals ∧ q.1 ∉ X.fs ∧ ∀ v, q.2.data ≠ .cell v
theorem suite_pins (I : Inv X pins σ H s) (h : ∀ q ∈ l, PinAt X H s q) : Inv (X.suite a (l ++ (X.pn ++ pins))) [] σ H s :=
  ⟨I.ok.suite _ _, I.os, I.bare, I.base, I.loc, I.cell, I.free, I.freeC, fun q hq => by
    rw [List.append_nil] at hq
    rcases List.mem_append.mp hq with hq | hq
    · exact h q hq
    · exact I.pin q hq, I.hok, I.len⟩
theorem unsuite_pins (I : Inv (X.suite a (l ++ (X.pn ++ pins))) pn' σ H s) (ok : X.Ok) : Inv X pins σ H s :=
  ⟨ok, I.os, I.bare, I.base, I.loc, I.cell, I.free, I.freeC, fun q hq => I.pin q (List.mem_append_left _ (List.mem_append_right _ hq)), I.hok, I.len⟩
theorem unsuite_xe {E : Value → Shared → Prop} (I : Inv (sufX X a (l ++ (X.pn ++ pins)) E) pn' σ H s) (ok : X.Ok) : Inv X pins σ H s :=
  unsuite_pins (show Inv (X.suite a (l ++ (X.pn ++ pins))) pn' σ H s from I.wish fun _ _ => False) ok
/-- the context of an exception, pinned -/
theorem ctx_pins {B : Heap} {c : Value} (kc : KC B H c) (st : B.StaysIn s.heap) (ff : s.heap.FunFrames B (X.env :: X.outer)) (hf : X.env.frame = some X.env.locals) :
    ∃ l : List (Addr × Obj), (∀ q ∈ l, PinAt X H s q) ∧ (c = .none ∨ ∃ q ∈ l, c = .ref q.1 ∧ ∃ vq : Array Value, q.2.data = .fields vq ∧ vq[2]? = some .none) := by
  rcases kc with rfl | ⟨x, o, vs, rfl, g, nh, d, f⟩
  · exact ⟨[], fun _ h => (List.not_mem_nil h).elim, .inl rfl⟩
  · have notin : x ∉ frs (X.env :: X.outer) := fun hm => by
      have := (ff.mem hm).1
      rw [g] at this
      cases this
    refine ⟨[(x, o)], fun q hq => ?_, .inr ⟨(x, o), List.mem_singleton.mpr rfl, rfl, vs, d, f⟩⟩
    rw [List.mem_singleton.mp hq]
    refine ⟨st x o g, nh, fun y => notin (List.mem_filterMap.mpr ⟨X.env, List.mem_cons_self, by rw [hf]; exact congrArg some (show x = X.env.locals from y).symm⟩), fun y => ?_, fun v y => ?_⟩
    · obtain ⟨e, he, w⟩ := List.mem_filterMap.mp y
      exact notin (List.mem_filterMap.mpr ⟨e, List.mem_cons_of_mem _ he, w⟩)
    · have y : o.data = .cell v := y
      rw [d] at y
      cases y
end
/-- what flies in a mode is a case of what flies in the middle one -/
theorem takes_midN {X : Cx} {W : WX} {bm : Md} (hbm : bm ≠ some false) (h : ∀ u s', (∃ (a : Addr) (B : Heap) (sI : Shared) (pins : List (Addr × Obj)) (σ : L2.St) (H : Hp) (cls : Value) (d : Option Addr) (c : Value),
    u = .ref a ∧ Inv X pins σ H sI ∧ (∀ b o, sI.heap.get? b = some o → b ∉ frs X.stack → B.get? b = some o) ∧ sI.heap.UpToSlots s'.heap ∧ KC B H c ∧ (bm = some true → c = .none) ∧ Sky B X.stack a (Zx c cls d) X.env.locals s'.heap ∧ H a = none ∧ s'.os = sI.os ∧ AllBare s'.gens ∧ W cls d σ H) → X.xe u s') : TkB bm X W := by
  match bm, hbm, h with
  | some true, _, h => exact fun u s' ⟨a, B, sI, pins, σ, H, cls, d, e, I, nb, up, sky, r⟩ => h u s' ⟨a, B, sI, pins, σ, H, cls, d, .none, e, I, nb, up, .inl rfl, fun _ => rfl, sky_imp (fun _ z => ⟨z.zc, z.2.2⟩) sky, r⟩
  | some false, n, _ => exact absurd rfl n
  | none, _, h => exact fun u s' ⟨a, B, sI, pins, σ, H, cls, d, e, I, nb, up, ⟨c, kc, sky⟩, r⟩ => h u s' ⟨a, B, sI, pins, σ, H, cls, d, c, e, I, nb, up, kc, (fun y => nomatch y), sky, r⟩
/-- try: body, except x: suite, where the suite may raise -/
theorem ps_try_onlyG {X : Cx} {bm om : Md} {x : Str} {c : Value} {body suite : List Stmt} {b₀ : Stmt} {np pos pos' : Pos} {tb : WX → TS} {ts : Addr → Value → Option Addr → TS} {Wout : WX} (hbm : bm ≠ some false) (hom : om ≠ some true)
    (hs : X.stack = X.env :: X.outer) (hf : X.env.frame = some X.env.locals) (hc : Names X x c) (hpa : ∀ hd : Option Value, PassesOwnAt (model X.prog X.w) (X.A.mark hd) X.A X.env X.xe) (tk : TkB om X Wout)
    (hb : ∀ (W : WX) (pn : List (Addr × Obj)) (xe : Value → Shared → Prop), TkB bm (X.tr pn xe) W → PassesOwn (model X.prog X.w) X.A X.env xe → PSs (X.tr pn xe) body (tb W))
    (hsu : ∀ (a : Addr) (oe : Obj) (cls : Value) (d : Option Addr) (c0 : Value) (pn : List (Addr × Obj)), Zc cls d oe → (bm = some true → c0 = .none) → HotM (L2H.suiteX X a pn) (a, oe) c0 → TkB om (L2H.suiteX X a pn) Wout → PSs (L2H.suiteX X a pn) (b₀ :: suite) (ts a cls d)) :
    PS X (.Try body [.ExceptHandler (some (.Name x np)) none (b₀ :: suite) pos'] [] [] pos) (fun D σ H => tb (L2.wOnly X.K c ts Wout D) D σ H) := by
  refine ⟨fun pins s σ H D I h => ?_⟩
  have okX := I.ok
  have frX : X.A.frames = some (X.env :: X.outer) := by rw [okX.frames, hs]
  refine wpAny_Try_except ?_
  refine wpAny_mono ((hb (L2.wOnly X.K c ts Wout D) (X.pn ++ pins) (fun e s₁ => wpAny (model X.prog X.w) X.A (noteFrame e X.env) (fun _ s₂ => wpAny (model X.prog X.w) X.A (setFlight e none) (fun _ s₃ =>
    wpAny (model X.prog X.w) X.A (handleBy e X.env [.ExceptHandler (some (.Name x np)) none (b₀ :: suite) pos']) (SP X pins D) X.xe s₃) X.xe s₂) X.xe s₁) (takes_midN hbm fun u s' xx => ?_) PassesOwn.looking).run [] s σ H D (I.toTry _) h) (fun f s1 wsp => ?_) (fun e s1 he => he)
  · obtain ⟨a, B, sI, pins', σ', H', cls, d, c0, rfl, J', n0, u0, kc, hc0, sky0, free0, os0, bare0, b, wb, wyes, wno⟩ := xx
    have J : Inv X pins σ' H' sI := J'.ofTry okX
    have skyX : Sky B (X.env :: X.outer) a (Zx c0 cls d) X.env.locals s'.heap := by rw [← hs]; exact sky0
    show wpAny (model X.prog X.w) X.A (noteFrame (.ref a) X.env) _ _ _
    refine L2N.Sky.land Zx.steady frX hf skyX fun ha fla ua => ?_
    have Jl : Inv X pins σ' H' { s' with heap := ha } := J.landed n0 fla.1 (u0.trans ua) os0 bare0
    obtain ⟨oa, va, ga, za, da⟩ := fla.there
    have outer1 : a ∉ frs (X.env :: X.outer) := fun hm => by
      obtain ⟨_, o2, e2, nofld⟩ := fla.2.2.1.mem hm
      rw [ga] at e2
      cases e2
      exact nofld _ da
    have notL : a ≠ X.env.locals := fun z => outer1 (List.mem_filterMap.mpr ⟨X.env, List.mem_cons_self, by rw [hf, z]⟩)
    have notF : a ∉ X.fs := fun hm => by
      obtain ⟨e, he, q⟩ := List.mem_filterMap.mp hm
      exact outer1 (List.mem_filterMap.mpr ⟨e, List.mem_cons_of_mem _ he, q⟩)
    have Sa := Jl.suite ga da free0 notL notF
    refine wpAny_handleBy_cons (codeAny_handlers_test ?_) (by intro q; cases q)
    have Lty : PySem.W.Looks (model X.prog X.w) ha (typeOf (.ref a)) cls := fun A Q E s k q => wpAny_typeOf_ref (k _ _ ga) (by rw [za.1.1]; exact q)
    have Lmt := PySem.W.exm_one (M := model X.prog X.w) (Jl.kIn) Lty wb
    have named : ∀ {Q : Value → Shared → Prop} {E : Value → Shared → Prop}, Q c { s' with heap := ha } → wpAny (model X.prog X.w) (X.A.mark (some (.ref a))) (eval (.Name x np) X.env) Q E { s' with heap := ha } := fun {Q E} q => by
      obtain ⟨hg, hdbg, hm | ⟨hm, hv, hnn⟩⟩ := hc
      · exact ld_glob (X := X.suite a ((a, oa) :: (X.pn ++ pins))) Sa hg hm q hdbg
      · exact ld_blt (X := X.suite a ((a, oa) :: (X.pn ++ pins))) Sa hg hm hv q hnn hdbg
    refine named (Lmt.here ?_)
    cases b with
    | true =>
      refine codeAny_handlers_suite ?_
      refine HandSPX.lands_againZ fla fun hh flb ub => ?_
      have Jn : Inv X pins σ' H' { s' with heap := hh } := J.landed n0 flb.1 ((u0.trans ua).trans ub) os0 bare0
      obtain ⟨ob, vb, gb, zb, db⟩ := flb.there
      obtain ⟨l, lp, lc⟩ := ctx_pins (X := X) (s := { s' with heap := hh }) kc flb.1 flb.2.2.1 hf
      have pinA : PinAt X H' { s' with heap := hh } (a, ob) := ⟨gb, free0, notL, notF, fun v z => by have z : ob.data = .cell v := z; rw [db] at z; cases z⟩
      have Sb : Inv (X.suite a (((a, ob) :: l) ++ (X.pn ++ pins))) [] σ' H' { s' with heap := hh } := suite_pins Jn fun q hq => (List.mem_cons.mp hq).elim (fun e => e ▸ pinA) (lp q)
      have hot : HotM (L2H.suiteX X a (((a, ob) :: l) ++ (X.pn ++ pins))) (a, ob) c0 := ⟨rfl, List.mem_cons_self, ⟨vb, db, zb.2 vb db⟩, lc.imp id fun ⟨q, hq, r⟩ => ⟨q, List.mem_append_left _ (List.mem_cons_of_mem _ hq), r⟩⟩
      have tkS : TkB om (L2H.suiteX X a (((a, ob) :: l) ++ (X.pn ++ pins))) Wout := by
        match om, hom, tk with
        | some true, n, _ => exact absurd rfl n
        | some false, _, tk => exact fun u2 s2 ⟨a2, B2, sI2, pn2, σ2, H2, cls2, d2, e2, I2, r⟩ => tk u2 s2 ⟨a2, B2, sI2, pins, σ2, H2, cls2, d2, e2, unsuite_xe (E := X.xe) I2 okX, r⟩
        | none, _, tk => exact fun u2 s2 ⟨a2, B2, sI2, pn2, σ2, H2, cls2, d2, e2, I2, r⟩ => tk u2 s2 ⟨a2, B2, sI2, pins, σ2, H2, cls2, d2, e2, unsuite_xe (E := X.xe) I2 okX, r⟩
      refine wpAny_mono ((hsu a ob cls d c0 _ zb.1 hc0 hot tkS).run [] _ _ H' _ (L2H.suiteX_of Sb) (wyes rfl a free0)) (fun f sd wsp => ?_) (fun ed sd z => hpa (some (.ref a)) ed sd z)
      cases f with
      | next =>
        obtain ⟨σd, Hd, Sd, qd⟩ := wsp
        exact ⟨_, _, unsuite_xe (E := X.xe) Sd okX, qd⟩
      | brk =>
        obtain ⟨σd, Hd, Sd, qd⟩ := wsp
        exact ⟨_, _, unsuite_xe (E := X.xe) Sd okX, qd⟩
      | cont =>
        obtain ⟨σd, Hd, Sd, qd⟩ := wsp
        exact ⟨_, _, unsuite_xe (E := X.xe) Sd okX, qd⟩
      | ret u =>
        obtain ⟨vd, σd, Hd, Sd, rd, qd⟩ := wsp
        exact ⟨_, _, _, unsuite_xe (E := X.xe) Sd okX, rd, qd⟩
    | false =>
      show wpAny _ X.A (handleBy (.ref a) X.env []) _ _ _
      refine wpAny_handleBy_nil ?_
      obtain ⟨y1, y2, y3, oe, vs, T, tO, tvs, he, hz, hd, h1, yr⟩ := id fla
      unfold PySem.passOn
      refine wpAny_bind (wpAny_field he hd h1 ?_)
      rw [if_neg (show ¬ ((Value.ref T == Value.none) = true) from by simp)]
      have flyOn : wpAny (model X.prog X.w) X.A (setFlight (.ref a) X.env.frame) (fun _ s4 => wpAny (model X.prog X.w) X.A (throw (.ref a) : Sem Flow) (SP X pins D) X.xe s4) X.xe { s' with heap := ha } := by
        rw [hf]
        refine HandSPX.setFlight_upZ fla fun hh held4 ub => wpAny_throw (tk.m hom _ _ ?_)
        exact ⟨a, B, sI, pins, σ', H', cls, d, rfl, J, n0, (u0.trans ua).trans ub, ⟨c0, kc, .inr (.inr (by rw [hs]; exact held4))⟩, free0, os0, bare0, wno rfl⟩
      first
        | exact wpAny_bind (wpAny_pure (wpAny_bind flyOn))
        | exact wpAny_bind flyOn
  · cases f with
    | next =>
      obtain ⟨σ', H', J', q⟩ := wsp
      exact wpAny_execs_nil ⟨σ', H', J'.ofTry okX, q⟩
    | brk =>
      obtain ⟨σ', H', J', q⟩ := wsp
      exact ⟨σ', H', J'.ofTry okX, q⟩
    | cont =>
      obtain ⟨σ', H', J', q⟩ := wsp
      exact ⟨σ', H', J'.ofTry okX, q⟩
    | ret u =>
      obtain ⟨v, σ', H', J', r, q⟩ := wsp
      exact ⟨v, σ', H', J'.ofTry okX, r, q⟩
end PD
/-! PD71: the same with a name. -/
namespace PD
open PySem PySem.Spec PyProof.Rows L2
end PD
/-! PD72: try .. except X: raise C(e) from None, and with a name, by modes. -/
namespace PD
open PySem PySem.Spec PyProof.Rows L2
/-- a judgement in all contexts of a try's body, in a mode -/
def inTrM (Γ : Ct) (bm : Md) (W' : XD) (J : Ct → Prop) : Prop := ∀ (F : Hp) (μ : Mu) (H : Hp) (pn : List (Addr × Obj)) (xe : Value → Shared → Prop) (tk : TkB bm (Γ.X.tr pn xe) (WofD Γ.X.K F μ H W')) (po : PassesOwn (model Γ.X.prog Γ.X.w) Γ.X.A Γ.X.env xe), J ⟨Γ.X.tr pn xe, F, μ, H, W', bm, tk, po⟩
/-- the argument of an exception: by a name, or a number -/
inductive Arg (Γ : Ct) (i : Nat) : Expr → (Dl → D → Prop) → Prop where
  | nm {j : Nat} {z : Str} {zp : Pos} (hj : Γ.X.N[j]? = some z) (hv : Vis Γ.X.env.scope z) (hij : j ≠ i) (hd : (z == ("__debug__" : Str)) = false) (hc : (z == ("__classdict__" : Str)) = false) : Arg Γ i (.Name z zp) fun δ d => δ[j]? = some (some d)
  | int (n : Int) (k : Nat) (p : Pos) : Arg Γ i (.Constant (.int n) k p) fun _ d => d = .int n
theorem Arg.run {Γ : Ct} {i : Nat} {ae : Expr} {ad : Dl → D → Prop} (A : Arg Γ i ae ad) {X' : Cx} (hN : X'.N = Γ.X.N) (hE : X'.env = Γ.X.env) (he : starEach [ae] X'.env = (false, eval ae X'.env) :: starEach [] X'.env) :
    ∃ ta : TA, PA X' [ae] ta ∧ ∀ {K : PySem.W.Frag} {F : Hp} {δ : Dl} {σ : L2.St} {d : D}, Fr K F σ δ → ad δ d → ∃ v, Dp K F d v ∧ ∀ σ2 : L2.St, (∀ k, k ≠ i → σ2[k]? = σ[k]?) → ∀ (H : Hp) (Q : List V → Hp → Prop), Q [v] H → ta σ2 H Q := by
  cases A with
  | nm hj hv hij hd hc =>
    refine ⟨_, pa_cons (pe_var (by rw [hN]; exact hj) (by rw [hE]; exact hv) hd hc) pa_nil he, fun {K F δ σ d} fr had => ?_⟩
    obtain ⟨v, h1, h2⟩ := fr.2 _ d had
    exact ⟨v, h2, fun σ2 hs H Q q => ⟨v, (hs _ hij).trans h1, q⟩⟩
  | int n k p =>
    refine ⟨_, pa_cons pe_int pa_nil he, fun {K F δ σ d} fr had => ?_⟩
    subst had
    exact ⟨.int n, by rw [Dp], fun σ2 hs H Q q => q⟩
section
variable {Γ : Ct} {δ : Dl} {μ : Mu} {E : En} {x y n fl : Str} {c : Value} {C : Addr} {ae : Expr} {ad : Dl → D → Prop} {i j jc k : Nat} {bm : Md} {body : List Stmt} {np np2 pos pos' p p2 cpos rpos : Pos}
/-- what is wished of an exception of the body -/
def WasU (Γ : Ct) (c : Value) (C : Addr) (fl : Str) (ad : Dl → D → Prop) : XD := fun cls ns xs δ' μ' => ∃ b, PySem.W.exmOne Γ.X.K cls c = some b ∧
  (b = true → ∃ d, ad δ' d ∧ Γ.W (.ref C) [fl] [d] δ' μ') ∧ (b = false → Γ.W cls ns xs δ' μ')
theorem sd_try_fromG (hbm : bm ≠ some false) (hom : Γ.nn = some false ∨ (Γ.nn = none ∧ bm = some true)) (hs : Γ.X.stack = Γ.X.env :: Γ.X.outer) (hf : Γ.X.env.frame = some Γ.X.env.locals) (ho : OutOf Γ.X) (hc : Names Γ.X x c) (M : ExcAny Γ.X.prog Γ.X.w Γ.X.K Γ.X.mg Γ.X.base C fl) (hr : Room j Γ.X.A) (hj : 2 ≤ j) (hm : Γ.X.mg y = some (.ref C))
    (A : Arg Γ Γ.X.N.length ae ad) (h : inTrM Γ bm (WasU Γ c C fl ad) fun Γ' => sds Γ' body δ μ E) (hg : Gl Γ.X y := by rfl) (hdb : (y == ("__debug__" : Str)) = false := by decide +kernel)
    (he : starEach [ae] Γ.X.env = (false, eval ae Γ.X.env) :: starEach [] Γ.X.env := by rfl) (hpl : (backTo p2 (starEach [] Γ.X.env)).any (·.1) = false := by rfl) :
    sd Γ (.Try body [.ExceptHandler (some (.Name x np)) none [.Raise (some (.Call (.Name y p) [ae] [] p2)) (some (.Constant .none jc cpos)) rpos] pos'] [] [] pos) δ μ E := fun F σ H a => by
  let st : Stmt := .Raise (some (.Call (.Name y p) [ae] [] p2)) (some (.Constant .none jc cpos)) rpos
  let W0 : WX := WofD Γ.X.K Γ.F0 Γ.μ0 Γ.H0 Γ.W
  let tb : WX → TS := fun W D σ H => ∀ (pn : List (Addr × Obj)) (xe : Value → Shared → Prop), TkB bm (Γ.X.tr pn xe) W → PassesOwn (model Γ.X.prog Γ.X.w) Γ.X.A Γ.X.env xe → wss (Γ.X.tr pn xe) body D σ H
  let ts : Addr → Value → Option Addr → TS := fun a cls d D σ H => ∀ (oe : Obj) (c0 : Value) (pn : List (Addr × Obj)), (bm = some true → c0 = .none) → HotM (L2H.suiteX Γ.X a pn) (a, oe) c0 → TkB Γ.nn (L2H.suiteX Γ.X a pn) W0 → wss (L2H.suiteX Γ.X a pn) [st] D σ H
  have hom2 : Γ.nn ≠ some true := by
    rcases hom with h | ⟨h, _⟩ <;> rw [h] <;> exact fun z => nomatch z
  refine ws_of (ps_try_onlyG (tb := tb) (ts := ts) (c := c) (Wout := W0) hbm hom2 hs hf hc ho.at_ Γ.tk (fun W pn xe tk po => ⟨fun pins s σ H D I z => z pn xe tk po pins s I⟩) (fun a' oe cls d c0 pn hz h0 hot tks => ⟨fun pins s σ H D I z => z oe c0 pn h0 hot tks pins s I⟩)) ?_
  intro pn xe tk po
  have tk' : TkB bm (Γ.X.tr pn xe) (WofD Γ.X.K F μ H (WasU Γ c C fl ad)) := TkB.imp tk fun cls d σ' H' w => by
    obtain ⟨F', μ', δ', ns, xs, st', sx, fr, xo, b, hb, h1, h2⟩ := w
    refine ⟨b, hb, fun eb a' ha' oe c0 pn' h0 hot tks => ?_, fun eb => ⟨F', μ', δ', ns, xs, a.st.trans st', sx, fr, xo, h2 eb⟩⟩
    obtain ⟨d1, hd1, q⟩ := h1 eb
    obtain ⟨B, newId, initId, tl, fI, fd, ps, Z, T, i1, i2, bd, G⟩ := M.ex
    obtain ⟨ta, hta, hta2⟩ := A.run (X' := L2H.suiteX Γ.X a' pn') rfl rfl he
    obtain ⟨v, rv, go⟩ := hta2 fr hd1
    have tkc : (c0 = .none ∧ TakesM (L2H.suiteX Γ.X a' pn') W0) ∨ L2.Takes (L2H.suiteX Γ.X a' pn') W0 := by
      rcases hom with hn | ⟨hn, hb2⟩
      · exact .inr (tks.all hn)
      · exact .inl ⟨h0 hb2, tks.m hom2⟩
    refine wss_of (pss_one (ps_raiseM (R := fun _ => True) hot (.inl rfl) (fun {_ _ _ _ _ _ _} _ _ _ q => Constant_none q) (fun z => nomatch z) tkc (pmk_gX Z T i1 i2 G ((L2H.roomH_mark (hr.mono hj).r (some (.ref a')))) hot.mem bd pass_none hg hm hta hdb he hpl))) ?_
    refine go σ' (fun _ _ => rfl) _ _ ?_
    refine ⟨by simp, fun a2 ha2 => ⟨a2, C, v, rfl, T, M.hno, upd_same, fun dx hdx hne => ⟨rfl, dx, [(fl, v)], upd_same, ?_, ?_, ?_⟩⟩⟩
    · rw [upd_ne hne, upd_same]
    · rw [upd_ne hne] at hdx; exact hdx
    · rw [upd_ne hne] at hdx
      rw [upd_del ha2 hne]
      have a1 : At Γ F' δ' μ' σ' H' := ⟨a.st.trans st', sx, fr⟩
      have a3 := a1.pers (.xd [(fl, v)]) hdx
      exact ⟨trivial, upd F' dx (.xd [(fl, v)]), μ', δ', [fl], [d1], a3.st, a3.sx, a3.fr, .inr ⟨dx, [(fl, v)], rfl, upd_same, rfl, Dps.cons (rv.mono (same_upd (a1.sx.sub.free hdx))) Dps.nil⟩, q⟩
  have w := h F μ H pn xe tk' po F σ H ⟨Step.refl _ _ _, a.sx, a.fr⟩
  have up : ∀ {Q : Dl → Mu → Prop} {σ2 H2}, PostN ⟨Γ.X.tr pn xe, F, μ, H, WasU Γ c C fl ad, bm, tk', po⟩ F Q σ2 H2 → PostN Γ F Q σ2 H2 := fun {Q σ2 H2} w => by
    obtain ⟨F2, δ2, μ2, s2, a2, q⟩ := w
    exact ⟨F2, δ2, μ2, s2, ⟨a.st.trans a2.st, a2.sx, a2.fr⟩, q⟩
  refine wss_mono w ⟨fun σ2 H2 q => up q, fun v H2 q => ?_, fun σ2 H2 q => up q, fun σ2 H2 q => up q⟩
  obtain ⟨F2, d2, μ2, s2, st2, sx2, rd, q⟩ := q
  exact ⟨F2, d2, μ2, s2, a.st.trans st2, sx2, rd, q⟩
end
end PD
/-! PD73: int of a bool. -/
namespace PD
open PySem PySem.Spec PyProof.Rows L2
end PD
/-! PD74: defs that let out what has a context that has none. -/
namespace PD
open PySem PySem.Spec PyProof.Rows L2
/-- a def that may let out what has a context that has none, or anything -/
structure CallM (P : Program) (w : World) (K : PySem.W.Frag) (mg : Str → Option Value) (base : Heap) (k : Nat) (f : Addr) (n : Nat) (dds : List D) (sp : SpD) : Prop where
  x : ∀ b : Md, b ≠ some true → CallX b P w K mg base k f n dds sp
theorem CallM.at_ {P : Program} {w : World} {K : PySem.W.Frag} {mg : Str → Option Value} {base : Heap} {k : Nat} {f : Addr} {n : Nat} {dds : List D} {sp : SpD} (c : CallM P w K mg base k f n dds sp) (b : Md) (h : b ≠ some true := by first | decide | (show (none : Md) ≠ some true; decide) | (show (some false : Md) ≠ some true; decide)) : CallX b P w K mg base k f n dds sp := c.x b h
theorem CallM.mk0 {P : Program} {w : World} {base : Heap} {K : PySem.W.Frag} {mg : Str → Option Value} {k : Nat} {f : Addr} {sp : SpD} {x qual : Str} {params : Arguments} {body : List Stmt} {scope : Scope} {kws : List (Str × V)} {fd : FuncData} {ps : List Str} (F : FunD K x qual params body scope [] kws f fd)
    (h : ∀ (kV doc pm : Value) (an : Option Addr) (cdv ct : Value) (us : List Value), us.length = ps.length → bindArgs (PySem.W.fnOf x qual params body scope .none kV doc pm an cdv ct) ⟨us, []⟩ = pure (ps.zip us)) (G : ∀ b : Md, b ≠ some true → FnD b P w K mg base k f fd ps sp) : CallM P w K mg base k f ps.length [] sp :=
  ⟨fun b hb => ⟨⟨fd, ps, [], [], rfl, F.bindsN h, .nil, DfD.nil, G b hb⟩, F.kp⟩⟩
end PD
/-! PD75: x.upper(). -/
namespace PD
open PySem PySem.Spec PyProof.Rows L2
end PD
/-! PD76: an exception that goes out of a list comprehension (below the data): the block's context with a wish of its own, what the block hands on to the def. -/
namespace PD
open PySem PySem.Spec PyProof.Rows L2
/-- what a block leaves: its value, or an exception that goes on in the def's frame -/
def BlkEnd (M : Model) (A : Around) (E : Value → Shared → Prop) (use : Option (Value → Sem Unit)) (Q : Value → Shared → Prop) (acc : Value) (ce : Env) : Result → Shared → Prop
  | .ok f, s' => compPost M A E use Q acc ce.locals (.ok f) s'
  | .error x, s' => ∃ m, s'.heap.Ns ce.locals m ∧ ∀ h', Heap.SameBut ce.locals s'.heap h' → wpAny M A (passOn "comprehension.variables-let-go" x ce : Sem Value) (fun _ _ => False) E { s' with heap := h' }
theorem wpAny_compBlk {M : Model} {A : Around} {E : Value → Shared → Prop} {s : Shared} {env : Env} {e : Expr} {scope : Scope} {pos : Pos} {newAcc first : Sem Value} {g : Comprehension} {gs : List Comprehension} {cl : List (Str × Addr)} {use : Option (Value → Sem Unit)}
    {Q : Value → Shared → Prop} (hcl : clausesOf e = g :: gs) (hs : ∀ x, foldedSetIterable g.iter env x = pure x) (hclos : closureFor scope env = pure cl) (hkind : scope.kind = .function) (hnames : ∀ x ∈ scope.names, x.2 = .local → scope.names.lookup x.1 = some .local)
    (h : wpAny M A first (fun x s₁ => wpAny M A (pyIter x) (fun it s₂ => wpAny M A newAcc (fun acc s₃ =>
      wpAny M A (newFunctionEnv scope env.globals cl [] env.qual none .none (some env)) (fun cenv s₄ =>
        codeAny M A (.compStart e 0 it acc { cenv with scope := relabel scope env }) (BlkEnd M A E use Q acc { cenv with scope := relabel scope env }) s₄) E s₃) E s₂) E s₁) E s) :
    wpAny M A (comprehension e scope env pos newAcc false first use) Q E s := by
  unfold comprehension
  rw [hclos, hcl]
  refine wpAny_bind (wpAny_mono h (fun x s₁ h₁ => wpAny_bind (wpAny_standAt (wpAny_bind (wpAny_of_eq (hs x) (wpAny_bind (wpAny_holding (wpAny_mono h₁ (fun it s₂ h₂ =>
    wpAny_standIf (wpAny_bind (wpAny_mono h₂ (fun acc s₃ h₃ => wpAny_bind (wpAny_pure (wpAny_bind (wpAny_mono h₃ (fun ce s₄ h₄ => ?_) fun _ _ y => y)))) fun _ _ y => y)))
      fun _ _ y => y))))))) fun _ _ y => y)
  dsimp only
  have own : ∀ x ∈ (scope.names.filter fun x => (x.2 == .local || x.2 == .cell) && x.1 != (".0" : Str)).reverse, x.2 = .local → Env.kindOf { ce with scope := relabel scope env } x.1 = some .local :=
    fun x hx hl => lookup_relabel_local (hnames x (List.mem_filter.mp (List.mem_reverse.mp hx)).1 hl)
  have own' : ∀ x ∈ (scope.names.filter fun x => (x.2 == .local || x.2 == .cell) && x.1 != (".0" : Str)).reverse.drop 1 ++ (scope.names.filter fun x => (x.2 == .local || x.2 == .cell) && x.1 != (".0" : Str)).reverse.take 1,
      x.2 = .local → Env.kindOf { ce with scope := relabel scope env } x.1 = some .local := fun x hx hl =>
    (List.mem_append.mp hx).elim (fun y => own x (List.mem_of_mem_drop y) hl) fun y => own x (List.mem_of_mem_take y) hl
  refine wpAny_holding (wpAny_bind (wpAny_attempt (wpAny_holding (wpAny_run (codeAny_mono h₄ fun r s' hr => ?_)))))
  match r, use, hr with
  | .error x, _, ⟨m, hn, go⟩ =>
    exact wpAny_bind (wpAny_holding (wpAny_comp_letGo (cenv := { ce with scope := relabel scope env }) hkind _ s' m own hn fun h' m' _ sb => wpAny_mono (go h' sb) (fun _ _ f => f.elim) fun _ _ y => y))
  | .ok _, none, ⟨m, hn, go⟩ =>
    exact wpAny_bind (wpAny_holding (wpAny_comp_letGo (cenv := { ce with scope := relabel scope env }) hkind _ s' m own hn fun h' m' _ sb => wpAny_pure (go h' sb)))
  | .ok _, some u, hr =>
    refine wpAny_bind (wpAny_rule (wpAny_bind (wpAny_holding (wpAny_mono hr (fun _ s2 q => ?_) fun _ _ y => y))))
    obtain ⟨m, hn, go⟩ := q
    exact wpAny_bind (wpAny_comp_letGo (cenv := { ce with scope := relabel scope env }) hkind _ s2 m own' hn fun h' m' _ sb => wpAny_pure (go h' sb))
/-! ### the heap without one thing -/
theorem frames_less {h h' B B' : Heap} {C : Addr} (k : ∀ b, b ≠ C → h'.get? b = h.get? b) (kB : ∀ b o, B'.get? b = some o → B.get? b = some o) : ∀ {l : List Env}, C ∉ frs l → h.FunFrames B l → h'.FunFrames B' l
  | [], _, _ => trivial
  | env :: r, hn, ⟨hk, ⟨L, o, hf, h0, ho, hd⟩, hr⟩ => by
    have e : frs (env :: r) = L :: frs r := by unfold frs; rw [List.filterMap_cons, hf]
    rw [e] at hn
    have n1 : L ≠ C := fun z => hn (by rw [z]; exact List.mem_cons_self)
    refine ⟨hk, ⟨L, o, hf, ?_, (k L n1).trans ho, hd⟩, frames_less k kB (fun z => hn (List.mem_cons_of_mem _ z)) hr⟩
    cases q : B'.get? L with
    | none => rfl
    | some u => rw [kB L u q] at h0; cases h0
/-- noted by another frame's hand: as if it flew -/
theorem looks_fromZ {M : Model} {A : Around} {E : Value → Shared → Prop} {s : Shared} {Z : Obj → Prop} {base : Heap} {env : Env} {outer : List Env} {L e : Addr} {fl : Value} {Q : Unit → Shared → Prop} (hZ : PXN.Steady1 Z) (hfr : A.frames = some (env :: outer)) (hf : env.frame = some L)
    (hkb : base.StaysIn s.heap) (hen : base.get? e = none) (hl : s.heap.FunFrames base (env :: outer)) (ht : HandSPX.TracedZ s.heap base e Z fl) (hne : (fl == rawInt L) = false)
    (hQ : ∀ h', HandSPX.HeldZ base (env :: outer) e Z L h' → s.heap.UpToSlots h' → Q () { s with heap := h' }) : wpAny M A (noteFrame (.ref e) env) Q E s := by
  obtain ⟨oe, vs, T, oT, ts, he, hz, hd, h1, hnT, hTe, hT, hdT, h3⟩ := ht
  have oth : ∀ b, b ≠ T → (s.heap.update T (Obj.mapFields (·.setIfInBounds 3 Value.none))).get? b = s.heap.get? b := fun b hb => Heap.get?_update_other _ _ (Ne.symm hb)
  have nrec : ∀ b o, s.heap.get? b = some o → (∀ vs, o.data ≠ .fields vs) → b ≠ T := fun b o hb hnf q => by
    rw [q, hT] at hb; injection hb with hb; subst hb; exact hnf ts hdT
  unfold noteFrame
  simp only [hf]
  refine wpAny_bind (wpAny_field he hd h1 ?_)
  rw [if_pos (show (Value.ref T != Value.none) = true from by simp)]
  refine wpAny_bind (wpAny_field hT hdT h3 ?_)
  rw [if_neg (show ¬ ((fl == rawInt L) = true) from by rw [hne]; exact Bool.false_ne_true)]
  refine wpAny_bind (wpAny_setField hT hdT (Array.getElem?_eq_some_iff.mp h3).1 ?_)
  refine PXN.wpAny_entryZ hZ hfr (hl.of_keeps fun b o hb hnf => ⟨o, (oth b (nrec b o hb hnf)).trans hb, rfl⟩) hf ((oth e (Ne.symm hTe)).trans he)
    (fun b o hbo => (oth b fun q => by rw [q, hnT] at hbo; cases hbo).trans (hkb b o hbo)) hen hd (Array.getElem?_eq_some_iff.mp h1).1 hz fun h' hN => ?_
  obtain ⟨x1, x2, x3, x4⟩ := hN
  exact hQ h' ⟨x1, hen, x2, x3⟩ fun b o hb hnf => x4 b o ((oth b (nrec b o hb hnf)).trans hb) hnf
/-! ### the exception goes out of the block -/
theorem blk_out {X : Cx} {pins pins' : List (Addr × Obj)} {σ σ' : L2.St} {H3 H' : Hp} {s3 sI s' : Shared} {scope : Scope} {fp : List Addr} {ce : Env} {E : Value → Shared → Prop} {a : Addr} {B : Heap} {Z : Obj → Prop} {use : Option (Value → Sem Unit)} {Qf : Value → Shared → Prop} {acc : Value}
    (I3 : Inv X pins σ H3 s3) (hst : X.stack = X.env :: X.outer) (hfr : X.env.frame = some X.env.locals) (cL : ce.locals = s3.heap.objs.size) (cF : ce.frame = X.env.frame) (f3 : ∀ b ∈ fp, FpOk X pins H3 b)
    (hZ : PXN.Steady1 Z) (Ib : Inv ((X.blk s3 H3 scope ce fp).wish E) pins' σ' H' sI) (nb : ∀ b o, sI.heap.get? b = some o → b ∉ frs X.stack → B.get? b = some o) (up : sI.heap.UpToSlots s'.heap)
    (sky : Sky B X.stack a Z ce.locals s'.heap) (na : H' a = none) (os : s'.os = sI.os) (ag : AllBare s'.gens)
    (k : ∀ (B2 : Heap) (sI2 s2 : Shared), Inv X pins σ H' sI2 → (∀ b o, sI2.heap.get? b = some o → b ∉ frs X.stack → B2.get? b = some o) → sI2.heap.UpToSlots s2.heap → HandSPX.HeldZ B2 X.stack a Z X.env.locals s2.heap → s2.os = sI2.os → AllBare s2.gens →
      (∀ x o vs, B.get? x = some o → o.data = .fields vs → B2.get? x = some o) → X.xe (.ref a) s2) :
    notedBy (model X.prog X.w) X.A ce (fun e s2 => BlkEnd (model X.prog X.w) X.A X.xe use Qf acc ce (.error e) s2) (.ref a) s' := by
  have frA : X.A.frames = some (X.env :: X.outer) := by rw [I3.ok.frames, hst]
  have en : noteFrame (.ref a) ce = noteFrame (.ref a) X.env := by unfold noteFrame PySem.frameOf; simp only [cF]
  have cne : ce.locals ≠ X.env.locals := by rw [cL]; exact Nat.ne_of_gt I3.lt
  have fC : FpOk X pins H' s3.heap.objs.size := I3.fpOk (Nat.le_refl _) (by rw [← cL]; exact Ib.free)
  have cst : ce.locals ∉ frs X.stack := fun z => by
    rcases List.mem_cons.mp (I3.stkSub _ z) with y | y
    · exact cne y
    · rw [cL] at y; exact fC.2.2.1 y
  -- the def's own context, at the state without the exception
  have I7 : Inv X pins σ H' sI := I3.call' (ch := fp) Ib.os Ib.base Ib.hok Ib.bare fun b hb => ⟨(f3 b hb).2.2.2.1, (f3 b hb).2.1, (f3 b hb).2.2.2.2.1, (f3 b hb).2.2.2.2.2⟩
  obtain ⟨G, g1, g2⟩ := restrict sI.heap fun b => decide (b ≠ ce.locals)
  obtain ⟨B2, b1, b2⟩ := restrict B fun b => decide (b ≠ ce.locals)
  have G1 : ∀ b, b ≠ ce.locals → G.get? b = sI.heap.get? b := fun b hb => g1 b (by simp [hb])
  have B1 : ∀ b, b ≠ ce.locals → B2.get? b = B.get? b := fun b hb => b1 b (by simp [hb])
  have Gn : ∀ b o, G.get? b = some o → b ≠ ce.locals := fun b o z e => by rw [g2 b (by simp [e])] at z; cases z
  have Bn : ∀ b o, B2.get? b = some o → b ≠ ce.locals := fun b o z e => by rw [b2 b (by simp [e])] at z; cases z
  have Bs : ∀ b o, B2.get? b = some o → B.get? b = some o := fun b o z => by rw [← B1 b (Bn b o z)]; exact z
  have I8 : Inv X pins σ H' { sI with heap := G, toks := sI.toks } := by
    obtain ⟨f0, f1, f2, f3', f4, f5⟩ := fC
    rw [← cL] at f0 f1 f3' f4 f5
    exact I7.turned (t' := sI.toks) (fun b o hb e => (G1 b hb).trans e) f0 f1 f3' f4 f5
  obtain ⟨m, hn, _⟩ := id Ib.loc
  have hn : sI.heap.Ns ce.locals m := hn
  have fin : ∀ h1, HandSPX.HeldZ B (X.env :: X.outer) a Z X.env.locals h1 → s'.heap.UpToSlots h1 → BlkEnd (model X.prog X.w) X.A X.xe use Qf acc ce (.error (.ref a)) { s' with heap := h1 } := fun h1 hh up1 => by
    obtain ⟨y1, y2, y3, oe, vs, T, oT, ts, he, hz, hd, hv, hnT, hTe, hT, hdT, h3⟩ := hh
    have hn1 : h1.Ns ce.locals m := (up.trans up1).ns hn
    refine ⟨m, hn1, fun h2 sb => ?_⟩
    obtain ⟨oc, es, ep, hoc, hdc, _⟩ := hn1
    have nf : ∀ b o ws, h1.get? b = some o → o.data = .fields ws → b ≠ ce.locals := fun b o ws z q e => by
      rw [e, hoc] at z; cases z
      rw [hdc] at q; cases q
    have k2 : ∀ b, b ≠ ce.locals → h2.get? b = h1.get? b := sb.2
    have he2 : h2.get? a = some oe := (k2 a (nf a oe vs he hd)).trans he
    have hT2 : h2.get? T = some oT := (k2 T (nf T oT ts hT hdT)).trans hT
    have hnT2 : B2.get? T = none := by
      cases q : B2.get? T with
      | none => rfl
      | some u => rw [Bs T u q] at hnT; cases hnT
    have stay2 : B2.StaysIn h2 := fun b o z => (k2 b (Bn b o z)).trans (y1 b o (Bs b o z))
    have fr2 : h2.FunFrames B2 X.stack := by
      rw [hst] at cst ⊢
      exact frames_less k2 Bs cst y3
    have ht2 : HandSPX.TracedZ h2 B2 a Z (rawInt X.env.locals) := ⟨oe, vs, T, oT, ts, he2, hz, hd, hv, hnT2, hTe, hT2, hdT, h3⟩
    unfold PySem.passOn
    refine wpAny_bind (wpAny_field he2 hd hv ?_)
    rw [if_neg (show ¬ ((Value.ref T == Value.none) = true) from by simp)]
    have go : wpAny (model X.prog X.w) X.A (setFlight (.ref a) ce.frame) (fun _ s4 => wpAny (model X.prog X.w) X.A (throw (.ref a) : Sem Value) (fun _ _ => False) X.xe s4) X.xe { s' with heap := h2 } := by
      rw [cF, hfr]
      refine HandSPX.setFlight_anyZ stay2 fr2 ht2 fun h4 z1 z2 z3 z4 => wpAny_throw (k B2 { sI with heap := G, toks := sI.toks } _ I8 (fun b o z hb => (B1 b (Gn b o z)).trans (nb b o (by rw [← G1 b (Gn b o z)]; exact z) hb)) ?_ ⟨z1, ?_, z2, z3⟩ os ag fun x o ws z q => ?_)
      · refine Heap.UpToSlots.trans (h₂ := h2) (fun b o z hnf => ?_) z4
        have hb := Gn b o z
        obtain ⟨sl, q⟩ := (up.trans up1) b o (by rw [← G1 b hb]; exact z) hnf
        exact ⟨sl, (k2 b hb).trans q⟩
      · cases q : B2.get? a with
        | none => rfl
        | some u => rw [Bs a u q] at y2; cases y2
      · exact (B1 x (nf x o ws (y1 x o z) q)).trans z
    first
      | exact wpAny_bind (wpAny_pure (wpAny_bind go))
      | exact wpAny_bind go
  show wpAny _ X.A (noteFrame (.ref a) ce) _ _ s'
  rw [en]
  rw [hst] at sky
  rcases sky with ⟨hB, hn', hl, oe, vs, he, hz, hd, h1⟩ | fl | ⟨w1, w2, w3, w4⟩
  · exact PXN.look_newZ hZ frA hl hfr he hB hn' hd h1 hz fin
  · exact PXN.looks_onZ hZ frA hfr fl fin
  · exact looks_fromZ hZ frA hfr w1 w2 w3 w4 (by simp only [rawInt]; exact beq_eq_false_iff_ne.mpr fun z => cne (Int.ofNat.inj (Value.int.inj z).1)) fin
end PD
/-! PD77: list comprehensions whose block may let an exception out (ed_lcX; lcdX as lcd, its blocks with the def's wish about exceptions). -/
namespace PD
open PySem PySem.Spec PyProof.Rows L2
/-- the block's context, a wish of its own -/
abbrev blkX (X : Cx) (s : Shared) (H : Hp) (scope : Scope) (ce : Env) (fp : List Addr) (E : Value → Shared → Prop) : Cx := (X.blk s H scope ce fp).wish E
/-- what holds in all blocks that hand on what the def takes -/
def inBlk (X : Cx) (nn : Md) (WB : WX) (scope : Scope) (J : Cx → Prop) : Prop := ∀ (s : Shared) (H : Hp) (C : Addr) (cl : List (Str × Addr)) (fp : List Addr) (E : Value → Shared → Prop), TkB nn (blkX X s H scope (compEnvC scope cl C X.env) fp E) WB →
  PassesOwn (model X.prog X.w) X.A (compEnvC scope cl C X.env) E → J (blkX X s H scope (compEnvC scope cl C X.env) fp E)
def Wb (W : WX) (σ : L2.St) : WX := fun cls d _ H => W cls d σ H
section
variable {X : Cx} {elt tg iter : Expr} {ifs : List Expr} {scope : Scope} {own : List (Str × Nat)} {pos pos' : Pos} {wi : TI} {nn : Md} {W : WX}
theorem lc_coreX {pins : List (Addr × Obj)} {s : Shared} {σ : L2.St} {H : Hp} {Q : VK} {g : TG} {tt : TT} {te : TE} {use : Option (Value → Sem Unit)} {Qf : Value → Shared → Prop}
    (hc : X.calm = true) (hN : X.N.Nodup) (hst : X.stack = X.env :: X.outer) (hfr : X.env.frame = some X.env.locals) (tk : TkB nn X W) (I : Inv X pins σ H s) (hi : PI X tg iter wi) (ok : BlkOk X.N X.env.scope scope own)
    (hg : inBlk X nn (Wb W σ) scope fun Y => PG Y tg g) (ht : inBlk X nn (Wb W σ) scope fun Y => PTs Y ifs tt) (he : inBlk X nn (Wb W σ) scope fun Y => PE Y elt te) (hs : ∀ x, foldedSetIterable iter X.env x = pure x)
    (h : tLc wi g tt te (own.map (·.2)) σ H Q)
    (hRR : ∀ D C s' m H', Inv X pins σ H' s' → Q (.ref D) H' → s'.heap.Ns C m → FpOk X pins H' C → compPost (model X.prog X.w) X.A X.xe use Qf (.ref D) C (.ok .next) s') :
    wpAny (model X.prog X.w) X.A (comprehension (.ListComp elt [⟨tg, iter, ifs, 0⟩] scope pos) scope X.env pos' (newList []) false (eval iter X.env) use) Qf X.xe s := by
  have hfree : ∀ y ∈ scope.names, y.2 = .free → ∃ c, X.env.cells.lookup y.1 = some c := fun y hy e =>
    (ok.free y hy e).elim (fun k => I.ok.has _ (.inl k)) fun k => I.ok.has _ (.inr k)
  refine wpAny_compBlk (use := use) rfl hs (closure_ok hfree) ok.kind (fun y hy e => by rw [ok.uniq y hy, e])
    (thn (hi.run pins s σ H _ I h) fun xv s1 hx => thn hx fun itv s2 h2 => ?_)
  obtain ⟨it, fp, tn, J, H2, e, I2, T, st2, f2, q⟩ := h2
  subst e
  refine wpAny_newObj_type (newEnv_comp ?_) (by show 0 ≤ sizeLine; decide)
  generalize hD : s2.heap.objs.size = D
  obtain ⟨Wt, ⟨m0, w0⟩, turn⟩ := q D (I2.hok.fresh (Nat.le_of_eq hD))
  generalize hs3 : ({ s2 with heap := s2.heap.push { cls := .type "list", data := .seq ([] : List Value).toArray } } : Shared) = s3
  have h3 : s3.heap = s2.heap.push { cls := .type "list", data := .seq ([] : List Value).toArray } := by rw [← hs3]
  have I3 : Inv X pins σ (upd H2 D (.lst [])) s3 := by
    rw [← hs3]
    refine I2.laid (t' := s2.toks) (fun b o e => Heap.get?_push_of_some _ e) (Nat.le_of_eq hD) ⟨Nat.zero_le _, [], 0, .nil, ?_⟩
    rw [← hD]
    exact Heap.get?_push_size _ rfl
  have sz : ∀ b ∈ fp, b < s2.heap.objs.size := fun b hb => by
    obtain ⟨o, e, _⟩ := T.obj _ _ st2 b hb
    exact Heap.lt_size e
  have f3 : ∀ b ∈ fp, FpOk X pins (upd H2 D (.lst [])) b ∧ b < s3.heap.objs.size := fun b hb =>
    ⟨⟨by rw [upd_ne (by rw [← hD]; exact Nat.ne_of_lt (sz b hb))]; exact (f2 b hb).1, (f2 b hb).2⟩, by rw [h3, Heap.size_push]; exact Nat.lt_succ_of_lt (sz b hb)⟩
  have st3 : tn 0 s3.heap := T.keep _ _ _ st2 fun b _ o e => by rw [h3]; exact Heap.get?_push_of_some _ e
  have I4 := block_start I3 ok hN f3
  have pg := hg s3 (upd H2 D (.lst [])) s3.heap.objs.size (cellsFrom (s3.heap.objs.size + 1) scope.names (cloFrom X.env.cells scope.names [])) fp
  have pt := ht s3 (upd H2 D (.lst [])) s3.heap.objs.size (cellsFrom (s3.heap.objs.size + 1) scope.names (cloFrom X.env.cells scope.names [])) fp
  have pe := he s3 (upd H2 D (.lst [])) s3.heap.objs.size (cellsFrom (s3.heap.objs.size + 1) scope.names (cloFrom X.env.cells scope.names [])) fp
  show codeAny _ _ (.compStart (.ListComp elt [⟨tg, iter, ifs, 0⟩] scope pos) 0 (.ref it) (.ref D) (compEnvC scope (cellsFrom (s3.heap.objs.size + 1) scope.names (cloFrom X.env.cells scope.names [])) s3.heap.objs.size X.env))
    (BlkEnd (model X.prog X.w) X.A X.xe use Qf (.ref D) (compEnvC scope (cellsFrom (s3.heap.objs.size + 1) scope.names (cloFrom X.env.cells scope.names [])) s3.heap.objs.size X.env)) { s3 with heap := pushCells (s3.heap.push { cls := .type "dict", data := .dict #[] }) scope.names }
  have nfp : ∀ b ∈ fp, (upd H2 D (.lst [])) b = none := fun b hb => (f3 b hb).1.1
  generalize hce : compEnvC scope (cellsFrom (s3.heap.objs.size + 1) scope.names (cloFrom X.env.cells scope.names [])) s3.heap.objs.size X.env = ce at I4 pg pt pe ⊢
  have cL : ce.locals = s3.heap.objs.size := by subst hce; rfl
  have cF : ce.frame = X.env.frame := by subst hce; rfl
  generalize hH3 : upd H2 D (.lst []) = H3 at I3 I4 pg pt pe w0 nfp f3
  generalize hs4 : ({ s3 with heap := pushCells (s3.heap.push { cls := .type "dict", data := .dict #[] }) scope.names } : Shared) = s4 at I4 ⊢
  have st4 : tn 0 s4.heap := T.keep _ _ _ st3 fun b _ o e => by rw [← hs4]; exact pushCells_keeps _ _ _ _ (Heap.get?_push_of_some _ e)
  -- the block's own wish
  generalize hE : (notedBy (model X.prog X.w) X.A ce fun e s' => BlkEnd (model X.prog X.w) X.A X.xe use Qf (.ref D) ce (.error e) s') = EB
  have tkb : TkB nn (blkX X s3 H3 scope ce fp EB) (Wb W σ) := by
    subst hE
    have f3' : ∀ b ∈ fp, FpOk X pins H3 b := fun b hb => (f3 b hb).1
    match nn, tk with
    | some true, tk =>
      rintro u s' ⟨a, B, sI, pins', σ', H', cls, d, rfl, Ib, nb, up, sky, na, os, ag, w⟩
      exact blk_out I3 hst hfr cL cF f3' L2N.Zn.steady Ib nb up sky na os ag fun B2 sI2 s2 I2 nb2 up2 hh os2 ag2 _ => tk _ _ ⟨a, B2, sI2, pins, σ, H', cls, d, rfl, I2, nb2, up2, .inr (.inr hh), na, os2, ag2, w⟩
    | some false, tk =>
      rintro u s' ⟨a, B, sI, pins', σ', H', cls, d, rfl, Ib, nb, up, sky, na, os, ag, w⟩
      exact blk_out I3 hst hfr cL cF f3' (fun o v z => Zc.steady o _ z) Ib nb up sky na os ag fun B2 sI2 s2 I2 nb2 up2 hh os2 ag2 _ => tk _ _ ⟨a, B2, sI2, pins, σ, H', cls, d, rfl, I2, nb2, up2, .inr (.inr hh), na, os2, ag2, w⟩
    | none, tk =>
      rintro u s' ⟨a, B, sI, pins', σ', H', cls, d, rfl, Ib, nb, up, ⟨c, kc, sky⟩, na, os, ag, w⟩
      refine blk_out I3 hst hfr cL cF f3' Zx.steady Ib nb up sky na os ag fun B2 sI2 s2 I2 nb2 up2 hh os2 ag2 kB => tk _ _ ⟨a, B2, sI2, pins, σ, H', cls, d, rfl, I2, nb2, up2, ⟨c, ?_, .inr (.inr hh)⟩, na, os2, ag2, w⟩
      rcases kc with rfl | ⟨x, o, vs, rfl, h1, h2, h3, h4⟩
      · exact .inl rfl
      · exact .inr ⟨x, o, vs, rfl, kB x o vs h1 h3, h2, h3, h4⟩
  have pob : PassesOwn (model X.prog X.w) X.A ce EB := by
    subst hE
    exact PassesOwn.looking
  have pg := pg EB tkb pob
  have pt := pt EB tkb pob
  have pe := pe EB tkb pob
  have I4 : Inv (blkX X s3 H3 scope ce fp EB) [] (L2.wipe σ (own.map (·.2))) H3 s4 := I4.wish EB
  have stat : ∀ {σ' : L2.St} {H' : Hp} {s' : Shared}, Inv (blkX X s3 H3 scope ce fp EB) [] σ' H' s' → (∀ b ∈ fp, H' b = none) → ∀ b ∈ fp, FpOk (blkX X s3 H3 scope ce fp EB) [] H' b := fun {σ' H' s'} I' hn b hb =>
    ⟨hn b hb, (I'.ok.exf b hb).1, I'.ok.exfs b hb, .inl hb, fun x c e => (I'.ok.exf b hb).2 x c e, fun p hp => absurd (show p ∈ ([] : List (Addr × Obj)) ++ [] from hp) (by simp)⟩
  have loop : codeAny (model X.prog X.w) X.A (.compLoop (.ListComp elt [⟨tg, iter, ifs, 0⟩] scope pos) 0 (.ref it) (.ref D) ce) (BlkEnd (model X.prog X.w) X.A X.xe use Qf (.ref D) ce) s4 := by
    refine compLoop_any (fun n s' => ∃ i H', Inv (blkX X s3 H3 scope ce fp EB) [] (L2.wipe σ (own.map (·.2))) H' s' ∧ tn i s'.heap ∧ (∀ b ∈ fp, H' b = none) ∧ Wt i n H') ?_ m0 ⟨0, H3, I4, st4, nfp, w0⟩
    rintro n s5 ⟨i, H5, I5, st5, n5, w5⟩
    rw [hE]
    rcases turn i n H5 w5 with ⟨stop, qq⟩ | ⟨go, Nx, hNx, step⟩
    · have td := T.done (blkX X s3 H3 scope ce fp EB) rfl rfl rfl hc i [] s5 _ H5 EB I5 (stat I5 n5) st5 stop
      refine wpAny_mono td (fun r s6 ⟨hr, I6⟩ => ?_) fun _ _ y => y
      subst hr
      have I7 : Inv X pins σ H5 s6 := I3.call' (ch := fp) I6.os I6.base I6.hok I6.bare fun b hb => ⟨(f3 b hb).1.2.2.2.1, (f3 b hb).1.2.1, (f3 b hb).1.2.2.2.2.1, (f3 b hb).1.2.2.2.2.2⟩
      have nC : H5 s3.heap.objs.size = none := by rw [← cL]; exact I6.free
      obtain ⟨m, hn, _⟩ := I6.loc
      have hn : s6.heap.Ns ce.locals m := hn
      show compPost _ _ _ _ _ _ ce.locals (.ok .next) s6
      rw [cL] at hn ⊢
      exact hRR D s3.heap.objs.size s6 m H5 I7 qq hn (I3.fpOk (Nat.le_refl _) nC)
    · have ti := T.item (blkX X s3 H3 scope ce fp EB) rfl rfl rfl hc i [] s5 _ H5 EB I5 (stat I5 n5) st5 go
      refine wpAny_mono ti (fun r s6 ⟨u, hr, h6⟩ => ?_) fun _ _ y => y
      subst hr
      refine wpAny_mono h6 (fun _ s7 ⟨x, H7, I7, r7, y7, st7, n7⟩ => ?_) fun _ _ y => y
      have I7' := I7.pinned (stat I7 n7) (T.obj _ _ st7)
      refine wpAny_mono (pg.run _ s7 _ H7 x u _ I7' r7 (step x H7 y7)) (fun _ s8 ⟨σ8, H8, I8, hw8, q8⟩ => ?_) fun _ _ y => y
      refine wpAny_mono (pt.run _ s8 σ8 H8 _ I8 q8) (fun b s9 ⟨H9, I9, q9⟩ => ?_) fun _ _ y => y
      have fin : ∀ {s' : Shared} {H' : Hp}, Inv (blkX X s3 H3 scope ce fp EB) ([] ++ pinsAt fp s7.heap) σ8 H' s' → Nx H' → ∃ m, m < n ∧ ∃ i H', Inv (blkX X s3 H3 scope ce fp EB) [] (L2.wipe σ (own.map (·.2))) H' s' ∧ tn i s'.heap ∧ (∀ b ∈ fp, H' b = none) ∧ Wt i m H' := fun {s' H'} I' nx => by
        obtain ⟨m', hm, w'⟩ := hNx H' nx
        have pin' : ∀ b ∈ fp, ∀ o, s7.heap.get? b = some o → s'.heap.get? b = some o ∧ H' b = none := fun b hb o e =>
          let z := I'.pin (b, o) (List.mem_append_right _ (List.mem_append_right _ (mem_pinsAt hb e)))
          ⟨z.1, z.2.1⟩
        have hl : (L2.wipe σ (own.map (·.2))).length = σ8.length := by rw [← hw8, wipe_length]
        refine ⟨m', hm, i + 1, H', (I'.unpinned (pins := [])).weak hl (fun j v e => ?_), T.keep _ _ _ st7 fun b hb o e => (pin' b hb o e).1, fun b hb => ?_, w'⟩
        · rw [← hw8] at e
          exact (wipe_some e).1
        · obtain ⟨o, e, _⟩ := T.obj _ _ st7 b hb
          exact (pin' b hb o e).2
      cases b with
      | false =>
        simp only [Bool.false_eq_true, if_false] at q9 ⊢
        exact fin I9 q9
      | true =>
        simp only [if_true] at q9 ⊢
        refine wpAny_mono (pe.run _ s9 σ8 H9 _ I9 q9) (fun z s10 ⟨yv, H10, I10, r10, acc, hD10, hz10, nx⟩ => ?_) fun _ _ y => y
        exact app_ok (X := blkX X s3 H3 scope ce fp EB) I10 hD10 hz10 r10 fun s11 I11 => fin I11 nx
  exact codeAny_compStart_list loop (T.self X.A 0 _ _ _ st4 loop)
/-- as a value -/
theorem pe_lcX {g : L2.St → TG} {tt : L2.St → TT} {te : L2.St → TE} (hc : X.calm = true) (hN : X.N.Nodup) (hst : X.stack = X.env :: X.outer) (hfr : X.env.frame = some X.env.locals) (tk : TkB nn X W) (hi : PI X tg iter wi) (ok : BlkOk X.N X.env.scope scope own)
    (hg : ∀ σ, inBlk X nn (Wb W σ) scope fun Y => PG Y tg (g σ)) (ht : ∀ σ, inBlk X nn (Wb W σ) scope fun Y => PTs Y ifs (tt σ)) (he : ∀ σ, inBlk X nn (Wb W σ) scope fun Y => PE Y elt (te σ)) (hs : ∀ x, foldedSetIterable iter X.env x = pure x := by intro _; rfl) :
    PE X (.ListComp elt [⟨tg, iter, ifs, 0⟩] scope pos) (fun σ H Q => tLc wi (g σ) (tt σ) (te σ) (own.map (·.2)) σ H Q) := by
  refine ⟨fun pins s σ H Q I h => ?_⟩
  rw [eval_ListComp]
  refine lc_coreX hc hN hst hfr tk I hi ok (hg σ) (ht σ) (he σ) hs h fun D C s' m H' I' q hn f => ⟨m, hn, fun h2 sb => ?_⟩
  obtain ⟨f0, f1, f2, f3, f4, f5⟩ := f
  exact ⟨.ref D, H', I'.turned (t' := s'.toks) (fun b o hb e => (sb.2 b hb).trans e) f0 f1 f3 f4 f5, rfl, q⟩
end
end PD
/-! PD78: lcdX, ed_lcX: a list comprehension over data, its block may let an exception out (the def's promise about exceptions at the slots ahead of the comprehension). -/
namespace PD
open PySem PySem.Spec PyProof.Rows L2
abbrev WblkD (Γ : Ct) (δ : Dl) : XD := fun cls ns ds _ μ => Γ.W cls ns ds δ μ
@[reducible] def Ct.blkX (Γ : Ct) (δ : Dl) (scope : Scope) (s : Shared) (H : Hp) (C : Addr) (cl : List (Str × Addr)) (fp : List Addr) (E : Value → Shared → Prop) (F0 : Hp) (μ0 : Mu) (H0 : Hp)
    (tk : TkB Γ.nn (PD.blkX Γ.X s H scope (compEnvC scope cl C Γ.X.env) fp E) (WofD Γ.X.K F0 μ0 H0 (WblkD Γ δ))) (po : PassesOwn (model Γ.X.prog Γ.X.w) Γ.X.A (compEnvC scope cl C Γ.X.env) E) : Ct :=
  ⟨PD.blkX Γ.X s H scope (compEnvC scope cl C Γ.X.env) fp E, F0, μ0, H0, WblkD Γ δ, Γ.nn, tk, po⟩
/-- a judgement in all such blocks -/
def allX (Γ : Ct) (δ : Dl) (scope : Scope) (J : Ct → Prop) : Prop := ∀ (s : Shared) (H : Hp) (C : Addr) (cl : List (Str × Addr)) (fp : List Addr) (E : Value → Shared → Prop) (F0 : Hp) (μ0 : Mu) (H0 : Hp)
    (tk : TkB Γ.nn (PD.blkX Γ.X s H scope (compEnvC scope cl C Γ.X.env) fp E) (WofD Γ.X.K F0 μ0 H0 (WblkD Γ δ))) (po : PassesOwn (model Γ.X.prog Γ.X.w) Γ.X.A (compEnvC scope cl C Γ.X.env) E), J (Γ.blkX δ scope s H C cl fp E F0 μ0 H0 tk po)
section
variable {Γ : Ct} {elt tg iter : Expr} {ifs : List Expr} {scope : Scope} {own : List (Str × Nat)} {pos : Pos} {δ : Dl} {μ : Mu}
def lcdX (Γ : Ct) (elt tg iter : Expr) (ifs : List Expr) (scope : Scope) (vs : List Nat) (δ : Dl) (μ : Mu) (Q : List D → Mu → Prop) : Prop := eid Γ tg iter δ μ fun ds S μ1 => ds.length ≤ 1000000 ∧ ∃ I : Nat → List D → Mu → Prop, I 0 [] μ1 ∧ (∀ i acc μ', i ≤ ds.length → I i acc μ' → S μ' ∧ acc.length ≤ i) ∧
      (∀ i d acc μ', ds[i]? = some d → I i acc μ' → allX Γ δ scope fun Γb => gv Γb tg d vs (wipeD δ vs) μ' fun δ2 μ2 => allX Γ δ scope fun Γc => eif Γc ifs δ2 μ2 fun b μ3 =>
        if b = true then allX Γ δ scope fun Γd => ed Γd elt δ2 μ3 fun r μ4 => I (i + 1) (acc ++ [r]) μ4 else I (i + 1) acc μ3) ∧ ∀ acc μ', I ds.length acc μ' → Q acc μ'
def wgX (X : Cx) (nn : Md) (W : WX) (scope : Scope) (tg : Expr) (σ0 : L2.St) : TG := fun v σ H Q => inBlk X nn (Wb W σ0) scope fun Y => wg Y tg v σ H Q
def wtX (X : Cx) (nn : Md) (W : WX) (scope : Scope) (ifs : List Expr) (σ0 : L2.St) : TT := fun σ H Q => inBlk X nn (Wb W σ0) scope fun Y => wif Y ifs σ H Q
def weX (X : Cx) (nn : Md) (W : WX) (scope : Scope) (elt : Expr) (σ0 : L2.St) : TE := fun σ H Q => inBlk X nn (Wb W σ0) scope fun Y => we Y elt σ H Q
theorem LcAt.tk {F1 F H : Hp} {σ : L2.St} {Da : Addr} {acc : List D} (L : LcAt Γ F1 δ σ Da acc μ H F) {Y : Cx} (t : TkB Γ.nn Y (Wb (WofD Γ.X.K Γ.F0 Γ.μ0 Γ.H0 Γ.W) σ)) : TkB Γ.nn Y (WofD Γ.X.K F μ H (WblkD Γ δ)) :=
  t.imp fun cls d σb Hb ⟨F5, μ5, δ5, ns, ds, st, sx, fr, xd, w⟩ => ⟨F5, μ5, δ, ns, ds, L.at_.st.trans st, sx, L.at_.fr.mono st.ext, xd, w⟩
theorem lcdX_run {vs : List Nat} {Q : List D → Mu → Prop} (h : lcdX Γ elt tg iter ifs scope vs δ μ Q) (F σ H) (a : At Γ F δ μ σ H) :
    tLc (wi Γ.X tg iter) (wgX Γ.X Γ.nn (WofD Γ.X.K Γ.F0 Γ.μ0 Γ.H0 Γ.W) scope tg σ) (wtX Γ.X Γ.nn (WofD Γ.X.K Γ.F0 Γ.μ0 Γ.H0 Γ.W) scope ifs σ) (weX Γ.X Γ.nn (WofD Γ.X.K Γ.F0 Γ.μ0 Γ.H0 Γ.W) scope elt σ) vs σ H (PostE Γ F δ σ fun d μ' => ∃ ds, d = .lst ds ∧ Q ds μ') := by
  refine wi_mono (h F σ H a) fun J H1 ⟨F1, ds, S, μ1, s1, a1, ok, hz, I, h0, hS, hb, hd⟩ => fun Da hD => ?_
  have h0D : Γ.H0 Da = none ∨ Da ∈ dom Γ.μ0 := a1.st.back hD
  refine ⟨fun i m H' => m = ds.length - i ∧ i ≤ ds.length ∧ ∃ F' acc μ', LcAt Γ F1 δ σ Da acc μ' H' F' ∧ I i acc μ', ⟨ds.length, by simp, Nat.zero_le _, F1, [], μ1, ⟨Same.refl _, a1.ext (same_upd hD), ⟨[], upd_same, Dps.nil⟩, a1.sx.sub.free hD, fun hm => ?_⟩, h0⟩, ?_⟩
  · obtain ⟨c, hc, e⟩ := List.mem_map.mp hm
    obtain ⟨u, hu⟩ := (a1.sx.cells c hc).there
    rw [e, hD] at hu; cases hu
  rintro i m H' ⟨rfl, hi, F', acc, μ', L, hI⟩
  obtain ⟨hSi, hacc⟩ := hS i acc μ' hi hI
  by_cases hlt : i < ds.length
  · have e : ds[i]? = some ds[i] := List.getElem?_eq_getElem hlt
    have ah := L.at_.here
    obtain ⟨g1, g2⟩ := ok.go (Γ.here L.at_.st) rfl i F' δ μ' σ H' L.sm ah hSi _ e
    refine .inr ⟨g1, fun H2 => ∃ F2 acc2 μ2, LcAt Γ F1 δ σ Da acc2 μ2 H2 F2 ∧ I (i + 1) acc2 μ2, fun H2 ⟨F2, acc2, μ2, L2', q2⟩ => ⟨ds.length - (i + 1), by omega, rfl, hlt, F2, acc2, μ2, L2', q2⟩, fun x H2 y => ?_⟩
    obtain ⟨F2, s2, a2, r2⟩ := g2 x H2 y
    have LL := L.step (σb := σ) (δb := δ) a2.st a2.sx
    intro sB HB C cl fp E tkE poE
    have aB : At (Γ.blkX δ scope sB HB C cl fp E F2 μ' H2 (LL.tk tkE) poE) F2 (wipeD δ vs) μ' (L2.wipe σ vs) H2 := ⟨Step.refl _ _ _, LL.at_.sx, LL.at_.fr.wipe vs⟩
    refine wg_mono (hb i _ acc μ' e hI sB HB C cl fp E F2 μ' H2 (LL.tk tkE) poE F2 (L2.wipe σ vs) H2 x aB r2) fun σ3 H3 ⟨w3, F3, δ3, μ3, s3, a3, q3⟩ => ⟨w3.trans wipe_wipe, ?_⟩
    have L3 := LL.step (σb := σ) (δb := δ) a3.st a3.sx
    intro sB2 HB2 C2 cl2 fp2 E2 tkE2 poE2
    have aC : At (Γ.blkX δ scope sB2 HB2 C2 cl2 fp2 E2 F3 μ3 H3 (L3.tk tkE2) poE2) F3 δ3 μ3 σ3 H3 := ⟨Step.refl _ _ _, a3.sx, a3.fr⟩
    refine eif_run (q3 sB2 HB2 C2 cl2 fp2 E2 F3 μ3 H3 (L3.tk tkE2) poE2) aC fun b H4 ⟨F4, μ4, s4, a4, q4⟩ => ?_
    have L4 := L3.step (σb := σ) (δb := δ) a4.st a4.sx
    cases b with
    | true =>
      rw [if_pos rfl] at q4 ⊢
      intro sB5 HB5 C5 cl5 fp5 E5 tkE5 poE5
      have aE : At (Γ.blkX δ scope sB5 HB5 C5 cl5 fp5 E5 F4 μ4 H4 (L4.tk tkE5) poE5) F4 δ3 μ4 σ3 H4 := ⟨Step.refl _ _ _, a4.sx, a4.fr⟩
      refine we_mono (q4 sB5 HB5 C5 cl5 fp5 E5 F4 μ4 H4 (L4.tk tkE5) poE5 F4 σ3 H4 aE) fun v H5 ⟨F5, r, μ5, s5, a5, r5, q5⟩ => ?_
      have L5 := L4.step (σb := σ) (δb := δ) a5.st a5.sx
      obtain ⟨ws, h1, h2⟩ := L5.ls
      refine ⟨ws, h1, ?_, F5, acc ++ [r], μ5, ⟨L5.sm, L5.at_.updFree h0D L5.f L5.m, ⟨ws ++ [v], upd_same, h2.append (Dps.cons r5 Dps.nil)⟩, L5.f, L5.m⟩, q5⟩
      rw [← h2.length, sizeLine_eq]
      omega
    | false =>
      rw [if_neg Bool.false_ne_true] at q4 ⊢
      exact ⟨F4, acc, μ4, L4, q4⟩
  · have e : i = ds.length := by omega
    subst e
    refine .inl ⟨ok.stop Γ rfl _ F' δ μ' σ H' L.sm L.at_ hSi (Nat.le_refl _), ?_⟩
    obtain ⟨ws, h1, h2⟩ := L.ls
    have sF := same_upd (o := HO.lst ws) L.f
    have ah := L.at_
    have a2 : At Γ (upd F' Da (.lst ws)) δ μ' σ H' := by
      refine ⟨⟨ah.st.ext.trans sF, ah.st.keep, fun b u h hn => ?_, ah.st.cell⟩, ⟨fun b u h => ?_, fun c hc => ?_, ah.sx.nd, fun c hc => (ah.sx.cells c hc).mono sF rfl⟩, ah.fr.mono sF⟩
      · by_cases q : b = Da
        · rw [q]; exact h0D
        · rw [upd_ne q] at h; exact ah.st.new b u h hn
      · by_cases q : b = Da
        · rw [q, upd_same] at h; rw [q, ← h]; exact h1
        · rw [upd_ne q] at h; exact ah.sx.sub _ _ h
      · rw [upd_ne (fun e => L.m (by rw [← e]; exact List.mem_map.mpr ⟨c, hc, rfl⟩))]; exact ah.sx.off c hc
    exact ⟨_, .lst acc, μ', s1.trans (L.sm.trans sF), a2, dpl upd_same (h2.mono sF), acc, rfl, hd acc μ' hI⟩
theorem ed_lcX {own : List (Str × Nat)} {Q : D → Mu → Prop} (own_ : List (Str × Nat)) (e : own = own_) (hc : Γ.X.calm = true) (hN : Γ.X.N.Nodup) (ok : BlkOk Γ.X.N Γ.X.env.scope scope own) (h : lcdX Γ elt tg iter ifs scope (own.map (·.2)) δ μ fun ds μ' => Q (.lst ds) μ')
    (hs : ∀ x, foldedSetIterable iter Γ.X.env x = pure x := by intro _; rfl) (hst : Γ.X.stack = Γ.X.env :: Γ.X.outer := by rfl) (hfr : Γ.X.env.frame = some Γ.X.env.locals := by rfl) : ed Γ (.ListComp elt [⟨tg, iter, ifs, 0⟩] scope pos) δ μ Q := fun F σ H a =>
  we_mono (we_of (pe_lcX (W := WofD Γ.X.K Γ.F0 Γ.μ0 Γ.H0 Γ.W) (g := wgX Γ.X Γ.nn (WofD Γ.X.K Γ.F0 Γ.μ0 Γ.H0 Γ.W) scope tg) (tt := wtX Γ.X Γ.nn (WofD Γ.X.K Γ.F0 Γ.μ0 Γ.H0 Γ.W) scope ifs) (te := weX Γ.X Γ.nn (WofD Γ.X.K Γ.F0 Γ.μ0 Γ.H0 Γ.W) scope elt) hc hN hst hfr Γ.tk pi_wi ok
    (fun σ0 s H C cl fp E tk po => ⟨fun pins s' σ H' v u Q I r z => z s H C cl fp E tk po pins s' u I r⟩)
    (fun σ0 s H C cl fp E tk po => ⟨fun pins s' σ H' Q I z => (pts_wif ifs).run pins s' σ H' Q I (z s H C cl fp E tk po)⟩)
    (fun σ0 s H C cl fp E tk po => ⟨fun pins s' σ H' Q I z => z s H C cl fp E tk po pins s' I⟩) hs) (lcdX_run h F σ H a)) fun v H' ⟨F', d, μ', s, a', r, ds, e, q⟩ => ⟨F', d, μ', s, a', r, by rw [e]; exact q⟩
end
end PD
/-! PD79: names in a block that may let an exception out (rows of --#rowsX). -/
namespace PD
open PySem PySem.Spec PyProof.Rows L2
section
variable {Γ0 : Ct} {N : List Str} {sc scope : Scope} {i : Nat} {x : Str} {d : D} {δ δ0 : Dl} {μ : Mu} {Q : D → Mu → Prop} {R : Dl → Mu → Prop} {pos : Pos} {s : Shared} {H : Hp} {C : Addr} {cl : List (Str × Addr)} {fp : List Addr} {E : Value → Shared → Prop} {F0 : Hp} {μ0 : Mu} {H0 : Hp} {vs : List Nat}
  {tk : TkB Γ0.nn (PD.blkX Γ0.X s H scope (compEnvC scope cl C Γ0.X.env) fp E) (WofD Γ0.X.K F0 μ0 H0 (WblkD Γ0 δ0))} {po : PassesOwn (model Γ0.X.prog Γ0.X.w) Γ0.X.A (compEnvC scope cl C Γ0.X.env) E}
theorem blkX_scope (e : Γ0.X.env.scope = sc) : (Γ0.blkX δ0 scope s H C cl fp E F0 μ0 H0 tk po).X.env.scope = relS scope sc := by rw [← e]; rfl
theorem ed_nmCX (n : NmB N i x) (q : δ[i]? = some (some d)) (h : Q d μ) (v : ((relS scope sc).names.lookup x = some .local ∨ (relS scope sc).names.lookup x = some .cell) ∨ (relS scope sc).names.lookup x = some .free := by decide +kernel) (e : Γ0.X.env.scope = sc := by rfl) (e2 : Γ0.X.N = N := by rfl) :
    ed (Γ0.blkX δ0 scope s H C cl fp E F0 μ0 H0 tk po) (.Name x pos) δ μ Q := by
  refine ed_name (i := i) ?_ q h ?_ n.dbg n.cls
  · show Γ0.X.N[i]? = some x
    rw [e2]; exact n.at_
  · rw [blkX_scope e]
    rcases v with (v | v) | v
    · exact .inl v
    · exact .inr (.inl v)
    · exact .inr (.inr v)
theorem ed_nmBX (n : Nm N sc i x) (q : δ[i]? = some (some d)) (h : Q d μ) (v : ((relS scope sc).names.lookup x = some .local ∨ (relS scope sc).names.lookup x = some .cell) ∨ (relS scope sc).names.lookup x = some .free := by decide +kernel) (e : Γ0.X.env.scope = sc := by rfl) (e2 : Γ0.X.N = N := by rfl) :
    ed (Γ0.blkX δ0 scope s H C cl fp E F0 μ0 H0 tk po) (.Name x pos) δ μ Q := ed_nmCX (sc := sc) ⟨n.at_, n.dbg, n.cls⟩ q h v e e2
theorem gv_nmCX (n : NmB N i x) (hN : N.Nodup) (hv : i ∈ vs) (h : R (δ.set i (some d)) μ) (v : (relS scope sc).names.lookup x = some .local ∨ ((relS scope sc).names.lookup x = some .cell ∧ scope.names.lookup x = some .cell) := by decide +kernel) (e : Γ0.X.env.scope = sc := by rfl) (e2 : Γ0.X.N = N := by rfl) :
    gv (Γ0.blkX δ0 scope s H C cl fp E F0 μ0 H0 tk po) (.Name x pos) d vs δ μ R := by
  refine gv_name (i := i) (by show Γ0.X.N.Nodup; rw [e2]; exact hN) (by show Γ0.X.N[i]? = some x; rw [e2]; exact n.at_) hv h ?_ ?_
  · rw [blkX_scope e]; rcases v with v | v
    · exact .inl v
    · exact .inr v.1
  · rw [blkX_scope e]; rcases v with v | v
    · exact .inr v
    · refine .inl ?_
      show (scope.names.lookup x == some .cell) = true
      rw [v.2]; rfl
theorem glBX_of (h : (relS scope sc).names.lookup x = some .globalImplicit := by decide +kernel) (e : Γ0.X.env.scope = sc := by rfl) : Gl (Γ0.blkX δ0 scope s H C cl fp E F0 μ0 H0 tk po).X x := by
  show (Γ0.blkX δ0 scope s H C cl fp E F0 μ0 H0 tk po).X.env.scope.names.lookup x = _
  rw [blkX_scope e]; exact h
end
end PD
namespace LW
open PySem PySem.Spec PyProof.Rows L2 PD
def top (i : Nat) : Stmt := PySem.Challenge.pw_joinsback_k14_texts_of_stores.main.body.getD i (.Pass ⟨0, 0, 0, 0⟩)
abbrev sInvalidRow_init : Stmt := inClass (top 7) 0
abbrev sInvalidStore_init : Stmt := inClass (top 8) 0
abbrev sInvalidText_init : Stmt := inClass (top 9) 0
abbrev sNoRow_init : Stmt := inClass (top 10) 0
abbrev sis_sequence : Stmt := top 13
abbrev sis_test : Stmt := top 18
abbrev sis_deed : Stmt := top 19
abbrev stold_between : Stmt := top 20
abbrev sRow_init : Stmt := inClass (top 21) 0
abbrev sRow_read : Stmt := inClass (top 21) 1
abbrev sRow_str : Stmt := inClass (top 21) 3
abbrev sStore_init : Stmt := inClass (top 23) 0
abbrev sStore_read : Stmt := inClass (top 23) 1
abbrev sStore_need : Stmt := inClass (top 23) 2
abbrev sStore_len : Stmt := inClass (top 23) 6
abbrev sStore_getitem : Stmt := inClass (top 23) 7
abbrev sStore_eq : Stmt := inClass (top 23) 10
abbrev sStore_str : Stmt := inClass (top 23) 11
abbrev srow_at : Stmt := top 24
abbrev sdeal : Stmt := top 26
abbrev sdraw : Stmt := top 27
abbrev spick : Stmt := top 28
abbrev stests_of : Stmt := top 29
abbrev sdeeds_of : Stmt := top 30
abbrev sany_row : Stmt := top 31
abbrev srow_text : Stmt := top 32
abbrev sstore : Stmt := top 33
abbrev sheard : Stmt := top 34
abbrev slaw : Stmt := top 35
def dd (at_ : Str × Option Str) (x q : Str) (st : Stmt) (dfl : List He.Dv) (kwd : List (Str × He.Dv)) : He.DefD := ⟨at_, x, q, defArgs st, defBody st, defScope st, dfl, kwd⟩
def dInvalidRow_init : He.DefD := dd ("InvalidRow", some "__init__") "__init__" "InvalidRow.__init__" sInvalidRow_init [] []
def dInvalidStore_init : He.DefD := dd ("InvalidStore", some "__init__") "__init__" "InvalidStore.__init__" sInvalidStore_init [] []
def dInvalidText_init : He.DefD := dd ("InvalidText", some "__init__") "__init__" "InvalidText.__init__" sInvalidText_init [] []
def dNoRow_init : He.DefD := dd ("NoRow", some "__init__") "__init__" "NoRow.__init__" sNoRow_init [] []
def dis_sequence : He.DefD := dd ("is_sequence", none) "is_sequence" "is_sequence" sis_sequence [] []
def dis_test : He.DefD := dd ("is_test", none) "is_test" "is_test" sis_test [] []
def dis_deed : He.DefD := dd ("is_deed", none) "is_deed" "is_deed" sis_deed [] []
def dtold_between : He.DefD := dd ("told_between", none) "told_between" "told_between" stold_between [] []
def dRow_init : He.DefD := dd ("Row", some "__init__") "__init__" "Row.__init__" sRow_init [.adr (He.dflAt ("Row", some "__init__") 0), .adr (He.dflAt ("Row", some "__init__") 1), .bl true] []
def dRow_str : He.DefD := dd ("Row", some "__str__") "__str__" "Row.__str__" sRow_str [] []
def dStore_init : He.DefD := dd ("Store", some "__init__") "__init__" "Store.__init__" sStore_init [.adr (He.dflAt ("Store", some "__init__") 0)] []
def dStore_need : He.DefD := dd ("Store", some "need") "need" "Store.need" sStore_need [] []
def dStore_len : He.DefD := dd ("Store", some "__len__") "__len__" "Store.__len__" sStore_len [] []
def dStore_getitem : He.DefD := dd ("Store", some "__getitem__") "__getitem__" "Store.__getitem__" sStore_getitem [] []
def dStore_eq : He.DefD := dd ("Store", some "__eq__") "__eq__" "Store.__eq__" sStore_eq [] []
def dStore_str : He.DefD := dd ("Store", some "__str__") "__str__" "Store.__str__" sStore_str [] []
def drow_at : He.DefD := dd ("row_at", none) "row_at" "row_at" srow_at [] []
def ddeal : He.DefD := dd ("_law_deal", none) "_law_deal" "_law_deal" sdeal [] []
def ddraw : He.DefD := dd ("_law_draw", none) "_law_draw" "_law_draw" sdraw [] []
def dpick : He.DefD := dd ("_law_pick", none) "_law_pick" "_law_pick" spick [] []
def dtests_of : He.DefD := dd ("_law_tests_of", none) "_law_tests_of" "_law_tests_of" stests_of [] []
def ddeeds_of : He.DefD := dd ("_law_deeds_of", none) "_law_deeds_of" "_law_deeds_of" sdeeds_of [] []
def dany_row : He.DefD := dd ("_law_any_row", none) "_law_any_row" "_law_any_row" sany_row [] []
def drow_text : He.DefD := dd ("_law_row_text", none) "_law_row_text" "_law_row_text" srow_text [] []
def dstore : He.DefD := dd ("_law_store", none) "_law_store" "_law_store" sstore [] []
def dheard : He.DefD := dd ("_law_heard", none) "_law_heard" "_law_heard" sheard [] []
def dlaw : He.DefD := dd ("law", none) "law" "law" slaw [] []
def dxRow_read : He5.DefA := ⟨fun K => He5.wf K (He.ga K "Row") "classmethod" "read", "read", "Row.read", defArgs sRow_read, defBody sRow_read, defScope sRow_read, [], []⟩
def dxStore_read : He5.DefA := ⟨fun K => He5.wf K (He.ga K "Store") "classmethod" "read", "read", "Store.read", defArgs sStore_read, defBody sStore_read, defScope sStore_read, [], []⟩
def fx : List He5.DefA := [dxRow_read, dxStore_read]
def fn : List He.DefD := [dInvalidRow_init, dInvalidStore_init, dInvalidText_init, dNoRow_init, dis_sequence, dis_test, dis_deed, dtold_between, dRow_init, dRow_str, dStore_init, dStore_need, dStore_len, dStore_getitem, dStore_eq, dStore_str, drow_at, ddeal, ddraw, dpick, dtests_of, ddeeds_of, dany_row, drow_text, dstore, dheard, dlaw]
def fa0 : List He.Fa := [.glo "EndError", .glo "InvalidRow", .glo "InvalidStore", .glo "InvalidText", .glo "NoRow", .glo "KINDS", .glo "is_sequence", .glo "OF_NAMED", .glo "OF_JOINS", .glo "DEEDS", .glo "is_test", .glo "is_deed"]
def fa1 : List He.Fa := [.glo "told_between", .glo "Row", .glo "Store", .glo "row_at", .glo "_law_deal", .glo "_law_draw", .glo "_law_pick", .glo "_law_tests_of", .glo "_law_deeds_of", .glo "_law_any_row", .glo "_law_row_text", .glo "_law_store"]
def fa2 : List He.Fa := [.glo "_law_heard", .glo "law", .free "abs", .free "all", .free "bool", .free "enumerate", .free "int", .free "isinstance", .free "len", .free "list", .free "range", .free "str"]
def fa3 : List He.Fa := [.free "tuple", .cls "Course", .noat "Course" "rows", .cls "Row", .noat "Row" "kind", .noat "Row" "tests", .noat "Row" "deeds", .noat "Row" "answer", .mkr "Row", .meth "Row" "__str__", .cls "Store", .noat "Store" "rows"]
def fa4 : List He.Fa := [.noat "Store" "deeds", .mkr "Store", .meth "Store" "need", .meth "Store" "__len__", .meth "Store" "__eq__", .meth "Store" "__str__"]
def fa : List He.Fa := fa0 ++ (fa1 ++ (fa2 ++ (fa3 ++ (fa4))))
def cst_KINDS : List Str := ["new", "join", "back", "sweep"]
def cst_OF_NAMED : List Str := ["points", "struck"]
def cst_OF_JOINS : List Str := ["loser points", "loser struck", "winner points", "winner struck"]
def cst_DEEDS : List (Str × List Str) := [("new", ["list", "lead", "sign"]), ("join", ["move", "note", "mark", "point", "turn", "bare", "empty", "strike", "wake"]), ("back", ["recall", "forget", "bare", "empty", "strike", "wake"]), ("sweep", ["forget", "bare", "empty", "strike", "wake"])]
def exs0 : List (PySem.W.Frag → Bool) := [fun K => tupAB K (He.ga K "KINDS") (strDv cst_KINDS), fun K => tupAB K (He.ga K "OF_NAMED") (strDv cst_OF_NAMED), fun K => tupAB K (He.ga K "OF_JOINS") (strDv cst_OF_JOINS), fun K => kdB K (He.ga K "DEEDS") cst_DEEDS, fun K => tupAB K (He.dflAt ("Row", some "__init__") 0 K) [], fun K => tupAB K (He.dflAt ("Row", some "__init__") 1 K) [], fun K => tupAB K (He.dflAt ("Store", some "__init__") 0 K) [], fun K => clsTB K (He.ga K "Row"), fun K => clsTB K (He.ga K "Store"), fun K => neB K (He.ga K "Store"), fun K => oexgB "ValueError.__new__" tlVE K (He.ga K "InvalidRow"), fun K => He.eqO (PySem.W.findIn K (.ref (He.ga K "InvalidRow")) "word") (some none)]
def exs1 : List (PySem.W.Frag → Bool) := [fun K => He.eqO (PySem.W.findIn K (.ref (He.ga K "InvalidRow")) "__init__") (some (some (.ref (He.ma K (He.ga K "InvalidRow") "__init__")))), fun K => decide (PySem.W.typeIn K (.ref (He.ma K (He.ga K "InvalidRow") "__init__")) = some (.type "function")), fun K => decide (PySem.W.exmOne K (.ref (He.ga K "InvalidRow")) (.ref (He.ga K "InvalidRow")) = some true), fun K => oexgB "ValueError.__new__" tlVE K (He.ga K "InvalidStore"), fun K => He.eqO (PySem.W.findIn K (.ref (He.ga K "InvalidStore")) "word") (some none), fun K => He.eqO (PySem.W.findIn K (.ref (He.ga K "InvalidStore")) "__init__") (some (some (.ref (He.ma K (He.ga K "InvalidStore") "__init__")))), fun K => decide (PySem.W.typeIn K (.ref (He.ma K (He.ga K "InvalidStore") "__init__")) = some (.type "function")), fun K => oexgB "ValueError.__new__" tlVE K (He.ga K "InvalidText"), fun K => He.eqO (PySem.W.findIn K (.ref (He.ga K "InvalidText")) "at") (some none), fun K => He.eqO (PySem.W.findIn K (.ref (He.ga K "InvalidText")) "__init__") (some (some (.ref (He.ma K (He.ga K "InvalidText") "__init__")))), fun K => decide (PySem.W.typeIn K (.ref (He.ma K (He.ga K "InvalidText") "__init__")) = some (.type "function")), fun K => excCB K (He.ga K "InvalidText")]
def exs2 : List (PySem.W.Frag → Bool) := [fun K => decide (PySem.W.kitOne K (.ref (He.ga K "InvalidText")) (.ref (He.ga K "EndError")) = some true), fun K => decide (PySem.W.kitOne K (.ref (He.ga K "InvalidText")) (.ref (He.ga K "InvalidStore")) = some false), fun K => decide (PySem.W.exmOne K (.ref (He.ga K "InvalidText")) (.ref (He.ga K "InvalidText")) = some true), fun K => oexgB "IndexError.__new__" tlIE K (He.ga K "NoRow"), fun K => He.eqO (PySem.W.findIn K (.ref (He.ga K "NoRow")) "at") (some none), fun K => He.eqO (PySem.W.findIn K (.ref (He.ga K "NoRow")) "__init__") (some (some (.ref (He.ma K (He.ga K "NoRow") "__init__")))), fun K => decide (PySem.W.typeIn K (.ref (He.ma K (He.ga K "NoRow") "__init__")) = some (.type "function")), fun K => cmB K (He.ga K "Row") "read", fun K => cmB K (He.ga K "Store") "read"]
def exs : List (PySem.W.Frag → Bool) := exs0 ++ (exs1 ++ (exs2))
def ex (K : PySem.W.Frag) : Bool := exs.all fun f => f K
def ts : List He.Tab := [(fun K => He.ga K "DEEDS", ["new", "join", "back", "sweep"])]
abbrev T0 (w : World) (K : PySem.W.Frag) (mg : Str → Option Value) : Prop := TXP fa fn fx ts ex w K mg
section
variable {w : World} {K : PySem.W.Frag} {mg : Str → Option Value} (T : T0 w K mg)
include T
theorem g_EndError : mg "EndError" = some (.ref (He.ga K "EndError")) := T.g 0
theorem g_InvalidRow : mg "InvalidRow" = some (.ref (He.ga K "InvalidRow")) := T.g 1
theorem g_InvalidStore : mg "InvalidStore" = some (.ref (He.ga K "InvalidStore")) := T.g 2
theorem g_InvalidText : mg "InvalidText" = some (.ref (He.ga K "InvalidText")) := T.g 3
theorem g_NoRow : mg "NoRow" = some (.ref (He.ga K "NoRow")) := T.g 4
theorem g_KINDS : mg "KINDS" = some (.ref (He.ga K "KINDS")) := T.g 5
theorem g_is_sequence : mg "is_sequence" = some (.ref (He.ga K "is_sequence")) := T.g 6
theorem g_OF_NAMED : mg "OF_NAMED" = some (.ref (He.ga K "OF_NAMED")) := T.g 7
theorem g_OF_JOINS : mg "OF_JOINS" = some (.ref (He.ga K "OF_JOINS")) := T.g 8
theorem g_DEEDS : mg "DEEDS" = some (.ref (He.ga K "DEEDS")) := T.g 9
theorem g_is_test : mg "is_test" = some (.ref (He.ga K "is_test")) := T.g 10
theorem g_is_deed : mg "is_deed" = some (.ref (He.ga K "is_deed")) := T.g 11
theorem g_told_between : mg "told_between" = some (.ref (He.ga K "told_between")) := T.g 12
theorem g_Row : mg "Row" = some (.ref (He.ga K "Row")) := T.g 13
theorem g_Store : mg "Store" = some (.ref (He.ga K "Store")) := T.g 14
theorem g_row_at : mg "row_at" = some (.ref (He.ga K "row_at")) := T.g 15
theorem g_deal : mg "_law_deal" = some (.ref (He.ga K "_law_deal")) := T.g 16
theorem g_draw : mg "_law_draw" = some (.ref (He.ga K "_law_draw")) := T.g 17
theorem g_pick : mg "_law_pick" = some (.ref (He.ga K "_law_pick")) := T.g 18
theorem g_tests_of : mg "_law_tests_of" = some (.ref (He.ga K "_law_tests_of")) := T.g 19
theorem g_deeds_of : mg "_law_deeds_of" = some (.ref (He.ga K "_law_deeds_of")) := T.g 20
theorem g_any_row : mg "_law_any_row" = some (.ref (He.ga K "_law_any_row")) := T.g 21
theorem g_row_text : mg "_law_row_text" = some (.ref (He.ga K "_law_row_text")) := T.g 22
theorem g_store : mg "_law_store" = some (.ref (He.ga K "_law_store")) := T.g 23
theorem g_heard : mg "_law_heard" = some (.ref (He.ga K "_law_heard")) := T.g 24
theorem g_law : mg "law" = some (.ref (He.ga K "law")) := T.g 25
theorem b_abs : mg "abs" = none := T.f 26
theorem b_all : mg "all" = none := T.f 27
theorem b_bool : mg "bool" = none := T.f 28
theorem b_enumerate : mg "enumerate" = none := T.f 29
theorem b_int : mg "int" = none := T.f 30
theorem b_isinstance : mg "isinstance" = none := T.f 31
theorem b_len : mg "len" = none := T.f 32
theorem b_list : mg "list" = none := T.f 33
theorem b_range : mg "range" = none := T.f 34
theorem b_str : mg "str" = none := T.f 35
theorem b_tuple : mg "tuple" = none := T.f 36
theorem c_Course : Cls K (He.ga K "Course") := He.cls_ok (T.a 37 (f := .cls "Course"))
theorem n_Course_rows : NoAttr K (He.ga K "Course") "rows" := He.noat_ok (T.a 38 (f := .noat "Course" "rows"))
theorem c_Row : Cls K (He.ga K "Row") := He.cls_ok (T.a 39 (f := .cls "Row"))
theorem n_Row_kind : NoAttr K (He.ga K "Row") "kind" := He.noat_ok (T.a 40 (f := .noat "Row" "kind"))
theorem n_Row_tests : NoAttr K (He.ga K "Row") "tests" := He.noat_ok (T.a 41 (f := .noat "Row" "tests"))
theorem n_Row_deeds : NoAttr K (He.ga K "Row") "deeds" := He.noat_ok (T.a 42 (f := .noat "Row" "deeds"))
theorem n_Row_answer : NoAttr K (He.ga K "Row") "answer" := He.noat_ok (T.a 43 (f := .noat "Row" "answer"))
theorem k_Row : Mk K (He.ga K "Row") (He.ma K (He.ga K "Row") "__init__") := He.mkr_ok (T.a 44 (f := .mkr "Row"))
theorem m_Row_str : Meth K (He.ga K "Row") "__str__" (He.ma K (He.ga K "Row") "__str__") := He.meth_ok (T.a 45 (f := .meth "Row" "__str__"))
theorem c_Store : Cls K (He.ga K "Store") := He.cls_ok (T.a 46 (f := .cls "Store"))
theorem n_Store_rows : NoAttr K (He.ga K "Store") "rows" := He.noat_ok (T.a 47 (f := .noat "Store" "rows"))
theorem n_Store_deeds : NoAttr K (He.ga K "Store") "deeds" := He.noat_ok (T.a 48 (f := .noat "Store" "deeds"))
theorem k_Store : Mk K (He.ga K "Store") (He.ma K (He.ga K "Store") "__init__") := He.mkr_ok (T.a 49 (f := .mkr "Store"))
theorem m_Store_need : Meth K (He.ga K "Store") "need" (He.ma K (He.ga K "Store") "need") := He.meth_ok (T.a 50 (f := .meth "Store" "need"))
theorem m_Store_len : Meth K (He.ga K "Store") "__len__" (He.ma K (He.ga K "Store") "__len__") := He.meth_ok (T.a 51 (f := .meth "Store" "__len__"))
theorem m_Store_eq : Meth K (He.ga K "Store") "__eq__" (He.ma K (He.ga K "Store") "__eq__") := He.meth_ok (T.a 52 (f := .meth "Store" "__eq__"))
theorem m_Store_str : Meth K (He.ga K "Store") "__str__" (He.ma K (He.ga K "Store") "__str__") := He.meth_ok (T.a 53 (f := .meth "Store" "__str__"))
theorem t_KINDS : tupAB K (He.ga K "KINDS") (strDv cst_KINDS) = true := (allK (f := fun K => tupAB K (He.ga K "KINDS") (strDv cst_KINDS)) T.more 0)
theorem t_OF_NAMED : tupAB K (He.ga K "OF_NAMED") (strDv cst_OF_NAMED) = true := (allK (f := fun K => tupAB K (He.ga K "OF_NAMED") (strDv cst_OF_NAMED)) T.more 1)
theorem t_OF_JOINS : tupAB K (He.ga K "OF_JOINS") (strDv cst_OF_JOINS) = true := (allK (f := fun K => tupAB K (He.ga K "OF_JOINS") (strDv cst_OF_JOINS)) T.more 2)
theorem t_DEEDS : kdB K (He.ga K "DEEDS") cst_DEEDS = true := (allK (f := fun K => kdB K (He.ga K "DEEDS") cst_DEEDS) T.more 3)
theorem t_Store_init_0 : tupAB K (He.dflAt ("Store", some "__init__") 0 K) [] = true := (allK (f := fun K => tupAB K (He.dflAt ("Store", some "__init__") 0 K) []) T.more 6)
theorem ct_Row : ClsT K (He.ga K "Row") := clsT_ok (c_Row T) (allK (f := fun K => clsTB K (He.ga K "Row")) T.more 7)
theorem ct_Store : ClsT K (He.ga K "Store") := clsT_ok (c_Store T) (allK (f := fun K => clsTB K (He.ga K "Store")) T.more 8)
theorem ne_Store : NeOwn K (He.ga K "Store") (He.ma K (He.ga K "Store") "__eq__") := neOwn_of (m_Store_eq T) (allK (f := fun K => neB K (He.ga K "Store")) T.more 9)
theorem xg_InvalidRow : OexG "ValueError.__new__" tlVE K (He.ga K "InvalidRow") := oexgB_ok (allK (f := fun K => oexgB "ValueError.__new__" tlVE K (He.ga K "InvalidRow")) T.more 10)
theorem xn_InvalidRow : PySem.W.findIn K (.ref (He.ga K "InvalidRow")) "word" = some none := He.eqO_ok (allK (f := fun K => He.eqO (PySem.W.findIn K (.ref (He.ga K "InvalidRow")) "word") (some none)) T.more 11)
theorem xi_InvalidRow : PySem.W.findIn K (.ref (He.ga K "InvalidRow")) "__init__" = some (some (.ref (He.ma K (He.ga K "InvalidRow") "__init__"))) := He.eqO_ok (allK (f := fun K => He.eqO (PySem.W.findIn K (.ref (He.ga K "InvalidRow")) "__init__") (some (some (.ref (He.ma K (He.ga K "InvalidRow") "__init__"))))) T.more 12)
theorem xt_InvalidRow : PySem.W.typeIn K (.ref (He.ma K (He.ga K "InvalidRow") "__init__")) = some (.type "function") := of_decide_eq_true (allK (f := fun K => decide (PySem.W.typeIn K (.ref (He.ma K (He.ga K "InvalidRow") "__init__")) = some (.type "function"))) T.more 13)
theorem xm_InvalidRow_InvalidRow : PySem.W.exmOne K (.ref (He.ga K "InvalidRow")) (.ref (He.ga K "InvalidRow")) = some true := of_decide_eq_true (allK (f := fun K => decide (PySem.W.exmOne K (.ref (He.ga K "InvalidRow")) (.ref (He.ga K "InvalidRow")) = some true)) T.more 14)
theorem xg_InvalidStore : OexG "ValueError.__new__" tlVE K (He.ga K "InvalidStore") := oexgB_ok (allK (f := fun K => oexgB "ValueError.__new__" tlVE K (He.ga K "InvalidStore")) T.more 15)
theorem xn_InvalidStore : PySem.W.findIn K (.ref (He.ga K "InvalidStore")) "word" = some none := He.eqO_ok (allK (f := fun K => He.eqO (PySem.W.findIn K (.ref (He.ga K "InvalidStore")) "word") (some none)) T.more 16)
theorem xi_InvalidStore : PySem.W.findIn K (.ref (He.ga K "InvalidStore")) "__init__" = some (some (.ref (He.ma K (He.ga K "InvalidStore") "__init__"))) := He.eqO_ok (allK (f := fun K => He.eqO (PySem.W.findIn K (.ref (He.ga K "InvalidStore")) "__init__") (some (some (.ref (He.ma K (He.ga K "InvalidStore") "__init__"))))) T.more 17)
theorem xt_InvalidStore : PySem.W.typeIn K (.ref (He.ma K (He.ga K "InvalidStore") "__init__")) = some (.type "function") := of_decide_eq_true (allK (f := fun K => decide (PySem.W.typeIn K (.ref (He.ma K (He.ga K "InvalidStore") "__init__")) = some (.type "function"))) T.more 18)
theorem xg_InvalidText : OexG "ValueError.__new__" tlVE K (He.ga K "InvalidText") := oexgB_ok (allK (f := fun K => oexgB "ValueError.__new__" tlVE K (He.ga K "InvalidText")) T.more 19)
theorem xn_InvalidText : PySem.W.findIn K (.ref (He.ga K "InvalidText")) "at" = some none := He.eqO_ok (allK (f := fun K => He.eqO (PySem.W.findIn K (.ref (He.ga K "InvalidText")) "at") (some none)) T.more 20)
theorem xi_InvalidText : PySem.W.findIn K (.ref (He.ga K "InvalidText")) "__init__" = some (some (.ref (He.ma K (He.ga K "InvalidText") "__init__"))) := He.eqO_ok (allK (f := fun K => He.eqO (PySem.W.findIn K (.ref (He.ga K "InvalidText")) "__init__") (some (some (.ref (He.ma K (He.ga K "InvalidText") "__init__"))))) T.more 21)
theorem xt_InvalidText : PySem.W.typeIn K (.ref (He.ma K (He.ga K "InvalidText") "__init__")) = some (.type "function") := of_decide_eq_true (allK (f := fun K => decide (PySem.W.typeIn K (.ref (He.ma K (He.ga K "InvalidText") "__init__")) = some (.type "function"))) T.more 22)
theorem xc_InvalidText : ExcC K (He.ga K "InvalidText") := excCB_ok (allK (f := fun K => excCB K (He.ga K "InvalidText")) T.more 23)
theorem xk_InvalidText_EndError : PySem.W.kitOne K (.ref (He.ga K "InvalidText")) (.ref (He.ga K "EndError")) = some true := of_decide_eq_true (allK (f := fun K => decide (PySem.W.kitOne K (.ref (He.ga K "InvalidText")) (.ref (He.ga K "EndError")) = some true)) T.more 24)
theorem xk_InvalidText_InvalidStore : PySem.W.kitOne K (.ref (He.ga K "InvalidText")) (.ref (He.ga K "InvalidStore")) = some false := of_decide_eq_true (allK (f := fun K => decide (PySem.W.kitOne K (.ref (He.ga K "InvalidText")) (.ref (He.ga K "InvalidStore")) = some false)) T.more 25)
theorem xm_InvalidText_InvalidText : PySem.W.exmOne K (.ref (He.ga K "InvalidText")) (.ref (He.ga K "InvalidText")) = some true := of_decide_eq_true (allK (f := fun K => decide (PySem.W.exmOne K (.ref (He.ga K "InvalidText")) (.ref (He.ga K "InvalidText")) = some true)) T.more 26)
theorem xg_NoRow : OexG "IndexError.__new__" tlIE K (He.ga K "NoRow") := oexgB_ok (allK (f := fun K => oexgB "IndexError.__new__" tlIE K (He.ga K "NoRow")) T.more 27)
theorem xn_NoRow : PySem.W.findIn K (.ref (He.ga K "NoRow")) "at" = some none := He.eqO_ok (allK (f := fun K => He.eqO (PySem.W.findIn K (.ref (He.ga K "NoRow")) "at") (some none)) T.more 28)
theorem xi_NoRow : PySem.W.findIn K (.ref (He.ga K "NoRow")) "__init__" = some (some (.ref (He.ma K (He.ga K "NoRow") "__init__"))) := He.eqO_ok (allK (f := fun K => He.eqO (PySem.W.findIn K (.ref (He.ga K "NoRow")) "__init__") (some (some (.ref (He.ma K (He.ga K "NoRow") "__init__"))))) T.more 29)
theorem xt_NoRow : PySem.W.typeIn K (.ref (He.ma K (He.ga K "NoRow") "__init__")) = some (.type "function") := of_decide_eq_true (allK (f := fun K => decide (PySem.W.typeIn K (.ref (He.ma K (He.ga K "NoRow") "__init__")) = some (.type "function"))) T.more 30)
theorem cm_Row_read : CmD K (He.ga K "Row") "read" (He5.wf K (He.ga K "Row") "classmethod" "read") := cmB_ok (allK (f := fun K => cmB K (He.ga K "Row") "read") T.more 31)
theorem cm_Store_read : CmD K (He.ga K "Store") "read" (He5.wf K (He.ga K "Store") "classmethod" "read") := cmB_ok (allK (f := fun K => cmB K (He.ga K "Store") "read") T.more 32)
theorem k_DEEDS : ∃ es n, KDict K w (He.ga K "DEEDS") es n := T.tab 0 _ rfl
theorem f_InvalidRow_init : ∃ fd, FunD K "__init__" "InvalidRow.__init__" (defArgs sInvalidRow_init) (defBody sInvalidRow_init) (defScope sInvalidRow_init) (dInvalidRow_init.dvs K) (dInvalidRow_init.kws K) (He.fAd K dInvalidRow_init.at_) fd := T.d 0 (d := dInvalidRow_init)
theorem f_InvalidStore_init : ∃ fd, FunD K "__init__" "InvalidStore.__init__" (defArgs sInvalidStore_init) (defBody sInvalidStore_init) (defScope sInvalidStore_init) (dInvalidStore_init.dvs K) (dInvalidStore_init.kws K) (He.fAd K dInvalidStore_init.at_) fd := T.d 1 (d := dInvalidStore_init)
theorem f_InvalidText_init : ∃ fd, FunD K "__init__" "InvalidText.__init__" (defArgs sInvalidText_init) (defBody sInvalidText_init) (defScope sInvalidText_init) (dInvalidText_init.dvs K) (dInvalidText_init.kws K) (He.fAd K dInvalidText_init.at_) fd := T.d 2 (d := dInvalidText_init)
theorem f_NoRow_init : ∃ fd, FunD K "__init__" "NoRow.__init__" (defArgs sNoRow_init) (defBody sNoRow_init) (defScope sNoRow_init) (dNoRow_init.dvs K) (dNoRow_init.kws K) (He.fAd K dNoRow_init.at_) fd := T.d 3 (d := dNoRow_init)
theorem f_is_sequence : ∃ fd, FunD K "is_sequence" "is_sequence" (defArgs sis_sequence) (defBody sis_sequence) (defScope sis_sequence) (dis_sequence.dvs K) (dis_sequence.kws K) (He.fAd K dis_sequence.at_) fd := T.d 4 (d := dis_sequence)
theorem f_is_test : ∃ fd, FunD K "is_test" "is_test" (defArgs sis_test) (defBody sis_test) (defScope sis_test) (dis_test.dvs K) (dis_test.kws K) (He.fAd K dis_test.at_) fd := T.d 5 (d := dis_test)
theorem f_is_deed : ∃ fd, FunD K "is_deed" "is_deed" (defArgs sis_deed) (defBody sis_deed) (defScope sis_deed) (dis_deed.dvs K) (dis_deed.kws K) (He.fAd K dis_deed.at_) fd := T.d 6 (d := dis_deed)
theorem f_told_between : ∃ fd, FunD K "told_between" "told_between" (defArgs stold_between) (defBody stold_between) (defScope stold_between) (dtold_between.dvs K) (dtold_between.kws K) (He.fAd K dtold_between.at_) fd := T.d 7 (d := dtold_between)
theorem f_Row_init : ∃ fd, FunD K "__init__" "Row.__init__" (defArgs sRow_init) (defBody sRow_init) (defScope sRow_init) (dRow_init.dvs K) (dRow_init.kws K) (He.fAd K dRow_init.at_) fd := T.d 8 (d := dRow_init)
theorem f_Row_str : ∃ fd, FunD K "__str__" "Row.__str__" (defArgs sRow_str) (defBody sRow_str) (defScope sRow_str) (dRow_str.dvs K) (dRow_str.kws K) (He.fAd K dRow_str.at_) fd := T.d 9 (d := dRow_str)
theorem f_Store_init : ∃ fd, FunD K "__init__" "Store.__init__" (defArgs sStore_init) (defBody sStore_init) (defScope sStore_init) (dStore_init.dvs K) (dStore_init.kws K) (He.fAd K dStore_init.at_) fd := T.d 10 (d := dStore_init)
theorem f_Store_need : ∃ fd, FunD K "need" "Store.need" (defArgs sStore_need) (defBody sStore_need) (defScope sStore_need) (dStore_need.dvs K) (dStore_need.kws K) (He.fAd K dStore_need.at_) fd := T.d 11 (d := dStore_need)
theorem f_Store_len : ∃ fd, FunD K "__len__" "Store.__len__" (defArgs sStore_len) (defBody sStore_len) (defScope sStore_len) (dStore_len.dvs K) (dStore_len.kws K) (He.fAd K dStore_len.at_) fd := T.d 12 (d := dStore_len)
theorem f_Store_eq : ∃ fd, FunD K "__eq__" "Store.__eq__" (defArgs sStore_eq) (defBody sStore_eq) (defScope sStore_eq) (dStore_eq.dvs K) (dStore_eq.kws K) (He.fAd K dStore_eq.at_) fd := T.d 14 (d := dStore_eq)
theorem f_Store_str : ∃ fd, FunD K "__str__" "Store.__str__" (defArgs sStore_str) (defBody sStore_str) (defScope sStore_str) (dStore_str.dvs K) (dStore_str.kws K) (He.fAd K dStore_str.at_) fd := T.d 15 (d := dStore_str)
theorem f_row_at : ∃ fd, FunD K "row_at" "row_at" (defArgs srow_at) (defBody srow_at) (defScope srow_at) (drow_at.dvs K) (drow_at.kws K) (He.fAd K drow_at.at_) fd := T.d 16 (d := drow_at)
theorem f_deal : ∃ fd, FunD K "_law_deal" "_law_deal" (defArgs sdeal) (defBody sdeal) (defScope sdeal) (ddeal.dvs K) (ddeal.kws K) (He.fAd K ddeal.at_) fd := T.d 17 (d := ddeal)
theorem f_draw : ∃ fd, FunD K "_law_draw" "_law_draw" (defArgs sdraw) (defBody sdraw) (defScope sdraw) (ddraw.dvs K) (ddraw.kws K) (He.fAd K ddraw.at_) fd := T.d 18 (d := ddraw)
theorem f_pick : ∃ fd, FunD K "_law_pick" "_law_pick" (defArgs spick) (defBody spick) (defScope spick) (dpick.dvs K) (dpick.kws K) (He.fAd K dpick.at_) fd := T.d 19 (d := dpick)
theorem f_tests_of : ∃ fd, FunD K "_law_tests_of" "_law_tests_of" (defArgs stests_of) (defBody stests_of) (defScope stests_of) (dtests_of.dvs K) (dtests_of.kws K) (He.fAd K dtests_of.at_) fd := T.d 20 (d := dtests_of)
theorem f_deeds_of : ∃ fd, FunD K "_law_deeds_of" "_law_deeds_of" (defArgs sdeeds_of) (defBody sdeeds_of) (defScope sdeeds_of) (ddeeds_of.dvs K) (ddeeds_of.kws K) (He.fAd K ddeeds_of.at_) fd := T.d 21 (d := ddeeds_of)
theorem f_any_row : ∃ fd, FunD K "_law_any_row" "_law_any_row" (defArgs sany_row) (defBody sany_row) (defScope sany_row) (dany_row.dvs K) (dany_row.kws K) (He.fAd K dany_row.at_) fd := T.d 22 (d := dany_row)
theorem f_row_text : ∃ fd, FunD K "_law_row_text" "_law_row_text" (defArgs srow_text) (defBody srow_text) (defScope srow_text) (drow_text.dvs K) (drow_text.kws K) (He.fAd K drow_text.at_) fd := T.d 23 (d := drow_text)
theorem f_store : ∃ fd, FunD K "_law_store" "_law_store" (defArgs sstore) (defBody sstore) (defScope sstore) (dstore.dvs K) (dstore.kws K) (He.fAd K dstore.at_) fd := T.d 24 (d := dstore)
theorem f_heard : ∃ fd, FunD K "_law_heard" "_law_heard" (defArgs sheard) (defBody sheard) (defScope sheard) (dheard.dvs K) (dheard.kws K) (He.fAd K dheard.at_) fd := T.d 25 (d := dheard)
theorem f_law : ∃ fd, FunD K "law" "law" (defArgs slaw) (defBody slaw) (defScope slaw) (dlaw.dvs K) (dlaw.kws K) (He.fAd K dlaw.at_) fd := T.d 26 (d := dlaw)
theorem f_Row_read : ∃ fd, FunD K "read" "Row.read" (defArgs sRow_read) (defBody sRow_read) (defScope sRow_read) [] [] (He5.wf K (He.ga K "Row") "classmethod" "read") fd := T.dx 0 dxRow_read rfl
theorem f_Store_read : ∃ fd, FunD K "read" "Store.read" (defArgs sStore_read) (defBody sStore_read) (defScope sStore_read) [] [] (He5.wf K (He.ga K "Store") "classmethod" "read") fd := T.dx 1 dxStore_read rfl
end
abbrev N_InvalidRow_init : List Str := ["self", "word"]
theorem sc_InvalidRow_init : FnScope N_InvalidRow_init ["self", "word"] (defScope sInvalidRow_init) := ⟨rfl, rfl, rfl, by decide +kernel, rfl, by decide +kernel, by decide +kernel⟩
theorem v_InvalidRow_init_0 : Nm N_InvalidRow_init (defScope sInvalidRow_init) 0 "self" := ⟨rfl, by decide +kernel, by decide +kernel, by decide +kernel⟩
theorem v_InvalidRow_init_1 : Nm N_InvalidRow_init (defScope sInvalidRow_init) 1 "word" := ⟨rfl, by decide +kernel, by decide +kernel, by decide +kernel⟩
theorem x_InvalidRow {P : Program} {w : World} {K : PySem.W.Frag} {mg : Str → Option Value} {base : Heap} (T : T0 w K mg) : ExcMk P w K mg base (He.ga K "InvalidRow") "word" := by
  obtain ⟨fd, F⟩ := f_InvalidRow_init T
  exact ⟨xn_InvalidRow T, _, _, _, _, _, fd, _, basVE, xg_InvalidRow T, xi_InvalidRow T, xt_InvalidRow T, FunD.bindsN (ps := ["self", "word"]) F (fun _ _ _ _ _ _ us hl => match us, hl with | [_, _], _ => rfl), fn_oexG basVE F sc_InvalidRow_init v_InvalidRow_init_0 v_InvalidRow_init_1⟩
abbrev N_InvalidStore_init : List Str := ["self", "word"]
theorem sc_InvalidStore_init : FnScope N_InvalidStore_init ["self", "word"] (defScope sInvalidStore_init) := ⟨rfl, rfl, rfl, by decide +kernel, rfl, by decide +kernel, by decide +kernel⟩
theorem v_InvalidStore_init_0 : Nm N_InvalidStore_init (defScope sInvalidStore_init) 0 "self" := ⟨rfl, by decide +kernel, by decide +kernel, by decide +kernel⟩
theorem v_InvalidStore_init_1 : Nm N_InvalidStore_init (defScope sInvalidStore_init) 1 "word" := ⟨rfl, by decide +kernel, by decide +kernel, by decide +kernel⟩
theorem x_InvalidStore {P : Program} {w : World} {K : PySem.W.Frag} {mg : Str → Option Value} {base : Heap} (T : T0 w K mg) : ExcMk P w K mg base (He.ga K "InvalidStore") "word" := by
  obtain ⟨fd, F⟩ := f_InvalidStore_init T
  exact ⟨xn_InvalidStore T, _, _, _, _, _, fd, _, basVE, xg_InvalidStore T, xi_InvalidStore T, xt_InvalidStore T, FunD.bindsN (ps := ["self", "word"]) F (fun _ _ _ _ _ _ us hl => match us, hl with | [_, _], _ => rfl), fn_oexG basVE F sc_InvalidStore_init v_InvalidStore_init_0 v_InvalidStore_init_1⟩
abbrev N_InvalidText_init : List Str := ["self", "at"]
theorem sc_InvalidText_init : FnScope N_InvalidText_init ["self", "at"] (defScope sInvalidText_init) := ⟨rfl, rfl, rfl, by decide +kernel, rfl, by decide +kernel, by decide +kernel⟩
theorem v_InvalidText_init_0 : Nm N_InvalidText_init (defScope sInvalidText_init) 0 "self" := ⟨rfl, by decide +kernel, by decide +kernel, by decide +kernel⟩
theorem v_InvalidText_init_1 : Nm N_InvalidText_init (defScope sInvalidText_init) 1 "at" := ⟨rfl, by decide +kernel, by decide +kernel, by decide +kernel⟩
theorem x_InvalidText {P : Program} {w : World} {K : PySem.W.Frag} {mg : Str → Option Value} {base : Heap} (T : T0 w K mg) : ExcMk P w K mg base (He.ga K "InvalidText") "at" := by
  obtain ⟨fd, F⟩ := f_InvalidText_init T
  exact ⟨xn_InvalidText T, _, _, _, _, _, fd, _, basVE, xg_InvalidText T, xi_InvalidText T, xt_InvalidText T, FunD.bindsN (ps := ["self", "at"]) F (fun _ _ _ _ _ _ us hl => match us, hl with | [_, _], _ => rfl), fn_oexG basVE F sc_InvalidText_init v_InvalidText_init_0 v_InvalidText_init_1⟩
abbrev N_NoRow_init : List Str := ["self", "at"]
theorem sc_NoRow_init : FnScope N_NoRow_init ["self", "at"] (defScope sNoRow_init) := ⟨rfl, rfl, rfl, by decide +kernel, rfl, by decide +kernel, by decide +kernel⟩
theorem v_NoRow_init_0 : Nm N_NoRow_init (defScope sNoRow_init) 0 "self" := ⟨rfl, by decide +kernel, by decide +kernel, by decide +kernel⟩
theorem v_NoRow_init_1 : Nm N_NoRow_init (defScope sNoRow_init) 1 "at" := ⟨rfl, by decide +kernel, by decide +kernel, by decide +kernel⟩
theorem x_NoRow {P : Program} {w : World} {K : PySem.W.Frag} {mg : Str → Option Value} {base : Heap} (T : T0 w K mg) : ExcMk P w K mg base (He.ga K "NoRow") "at" := by
  obtain ⟨fd, F⟩ := f_NoRow_init T
  exact ⟨xn_NoRow T, _, _, _, _, _, fd, _, basIE, xg_NoRow T, xi_NoRow T, xt_NoRow T, FunD.bindsN (ps := ["self", "at"]) F (fun _ _ _ _ _ _ us hl => match us, hl with | [_, _], _ => rfl), fn_oexG basIE F sc_NoRow_init v_NoRow_init_0 v_NoRow_init_1⟩
def loose0 : List Str := ["_wall", "__name__", "Course", "Meaning", "course_of", "EndError", "InvalidRow", "InvalidStore", "InvalidText", "NoRow", "KINDS", "is_sequence", "OF_NAMED", "OF_JOINS", "DEEDS"]
def loose1 : List Str := ["is_test", "is_deed", "told_between", "Row", "Store", "row_at", "_law_deal", "_law_draw", "_law_pick", "_law_tests_of", "_law_deeds_of", "_law_any_row", "_law_row_text", "_law_store", "_law_heard"]
abbrev loose : List Str := loose0 ++ (loose1)
def as0 : List Addr := [3, 6, 4, 21, 96, 153, 164, 174, 194, 213, 232, 251, 255, 262, 263, 264, 265, 276, 283, 288, 330, 427, 438, 443, 450, 457, 464, 471, 476, 483, 488, 495, 500, 0, 20, 95, 152, 163, 173, 193]
def as1 : List Addr := [212, 231, 250, 261, 266, 267, 268, 269, 275, 282, 287, 329, 426, 437, 442, 449, 456, 463, 470, 475, 482, 487, 494, 499, 15, 16, 17, 18, 19, 35, 42, 47, 54, 61, 66, 71, 78, 83, 88, 93]
def as2 : List Addr := [94, 97, 98, 114, 121, 126, 133, 140, 145, 150, 151, 154, 155, 158, 159, 160, 161, 162, 172, 175, 191, 192, 210, 211, 229, 230, 248, 249, 252, 256, 257, 258, 259, 260, 270, 271, 272, 273, 274, 277]
def as3 : List Addr := [278, 279, 280, 281, 284, 285, 286, 303, 312, 320, 327, 328, 331, 332, 348, 355, 363, 370, 377, 384, 391, 398, 405, 412, 419, 424, 425, 428, 429, 432, 433, 434, 435, 436, 439, 440, 441, 444, 445, 446]
def as4 : List Addr := [447, 448, 451, 452, 453, 454, 455, 458, 459, 460, 461, 462, 465, 466, 467, 468, 469, 472, 473, 474, 477, 478, 479, 480, 481, 484, 485, 486, 489, 490, 491, 492, 493, 496, 497, 498, 34, 41, 46, 53]
def as5 : List Addr := [60, 65, 70, 77, 82, 87, 92, 113, 120, 125, 132, 139, 144, 149, 190, 209, 228, 247, 302, 298, 310, 311, 319, 326, 347, 343, 353, 354, 362, 369, 376, 383, 390, 397, 404, 411, 418, 423, 29, 30]
def as6 : List Addr := [31, 32, 33, 36, 37, 38, 39, 40, 43, 44, 45, 48, 49, 50, 51, 52, 55, 56, 57, 58, 59, 62, 63, 64, 67, 68, 69, 72, 73, 74, 75, 76, 79, 80, 81, 84, 85, 86, 89, 90]
def as7 : List Addr := [91, 108, 109, 110, 111, 112, 115, 116, 117, 118, 119, 122, 123, 124, 127, 128, 129, 130, 131, 134, 135, 136, 137, 138, 141, 142, 143, 146, 147, 148, 185, 186, 187, 188, 189, 204, 205, 206, 207, 208]
def as8 : List Addr := [223, 224, 225, 226, 227, 242, 243, 244, 245, 246, 299, 300, 301, 296, 297, 309, 313, 314, 315, 316, 317, 318, 321, 322, 323, 324, 325, 344, 345, 346, 342, 352, 356, 357, 358, 359, 360, 361, 364, 365]
def as9 : List Addr := [366, 367, 368, 371, 372, 373, 374, 375, 378, 379, 380, 381, 382, 385, 386, 387, 388, 389, 392, 393, 394, 395, 396, 399, 400, 401, 402, 403, 406, 407, 408, 409, 410, 413, 414, 415, 416, 417, 420, 421]
def as10 : List Addr := [422, 2]
def as : List Addr := as0 ++ (as1 ++ (as2 ++ (as3 ++ (as4 ++ (as5 ++ (as6 ++ (as7 ++ (as8 ++ (as9 ++ (as10))))))))))
abbrev R : PySem.W.OpenRow := PySem.W.OpenLaw.row PySem.Challenge.rw_joinsback_k14_texts_of_stores
abbrev hk : PySem.W.Hook := hookL as fa fn fx ts ex
def ob (s : PySem.W.SharedT) : AlP := obsL as fa fn fx ts ex (HandSHeadRun.getT s)
theorem ob_eq (s : PySem.W.SharedT) : ob s = hk.obs s.abs := obsL_eq (HandSHeadRun.getT_eq s)
set_option maxHeartbeats 0 in
theorem runF (w : World) : HandSHeadRun.RunEq R (PySem.W.view R.prog [35]) hk ob 100000 loose (w.withFollow "special-get-raises" false) := by
  intro os; kernel_rfl
set_option maxHeartbeats 0 in
theorem runT (w : World) : HandSHeadRun.RunEq R (PySem.W.view R.prog [35]) hk ob 100000 loose (w.withFollow "special-get-raises" true) := by
  intro os; kernel_rfl
theorem run (w : World) : HandSHeadRun.RunEq R (PySem.W.view R.prog [35]) hk ob 100000 loose w :=
  PySem.W.byRow2 "special-get-raises" (P := fun w => HandSHeadRun.RunEq R (PySem.W.view R.prog [35]) hk ob 100000 loose w) runF runT w
def FactsC : Prop := ∀ (P : Program) (w : World) (K : PySem.W.Frag) (h : Heap) (mg : Str → Option Value) (f : Addr) (X : K.In h) (G : h.Ns mainGlobals mg) (hfa : mg ("law" : Str) = some (.ref f)) (c : sayP fa fn fx ts ex K = valP fn fx ts w),
    ∃ fd : FuncData, (∀ (s : Shared) (v : Value), BindsTo s fd ⟨[v], []⟩ [("_law_script", v)]) ∧ ∀ base : Heap, K.In base → base.Ns mainGlobals mg → FnD false P w K mg base 10 f fd ["_law_script"] spLaw
end LW
section
open PySem PySem.W PySem.Calls PyProof.Rows
set_option maxHeartbeats 0 in
theorem LW.fin (FC : LW.FactsC) : PySem.Challenge.rw_joinsback_k14_texts_of_stores.Holds := by
  w_on; o_law
  refine HandSHeadRun.head_any (r := OpenLaw.row PySem.Challenge.rw_joinsback_k14_texts_of_stores) (q := view (OpenLaw.row PySem.Challenge.rw_joinsback_k14_texts_of_stores).prog [35]) (H := LW.hk) (ob := LW.ob) (M := 100000) (loose := LW.loose) (d := HandSHeadRun.topDef (OpenLaw.row PySem.Challenge.rw_joinsback_k14_texts_of_stores).prog 35) (kwd := []) LW.ob_eq
    (by kernel_rfl) (fun s => by kernel_rfl) LW.run (by kernel_rfl) (by kernel_rfl) (by kernel_rfl) (by rfl) (by first | assumption | decide +kernel) (by decide +kernel) ⟨rfl, rfl, rfl, rfl, rfl, by decide +kernel⟩ ?hw ?hc
  case hw => w_witness2
  case hc =>
    refine PD.walk_pd (l := PySem.Challenge.rw_joinsback_k14_texts_of_stores) (n := 63) (k := 10) (x := "_law_script") rfl (by kernel_rfl) ⟨rfl, by decide, by decide⟩ ?F
    intro w mg fa h Y G hmg0
    obtain ⟨K, KX, c⟩ := Y
    have hmg : mg ("law" : PySem.Str) = some (.ref fa) := by
      have e : (HandSHeadRun.topDef (OpenLaw.row PySem.Challenge.rw_joinsback_k14_texts_of_stores).prog 35).name = ("law" : PySem.Str) := by kernel_rfl
      rw [← e]
      exact hmg0
    obtain ⟨fd, hb, hF⟩ := FC (PySem.Challenge.rw_joinsback_k14_texts_of_stores).prog w K h mg fa KX G hmg c
    exact ⟨K, fd, KX, hb, hF⟩
end
namespace LW
open PySem PySem.Spec PyProof.Rows L2 PD
local macro_rules | `(tactic| walk_at "pd.listL") => `(tactic| refine cld_list_lst ?_)
local macro_rules | `(tactic| walk_at "pd.listT") => `(tactic| refine cld_list_tup ?_)
local macro_rules | `(tactic| walk_at "pd.lst") => `(tactic| refine ed_lst ?_)
/-! the stepping tactic: by the head of the syntax -/
local macro_rules | `(tactic| walk_at "pd.side") => `(tactic| first | assumption | rfl | decide | omega)
local macro_rules | `(tactic| walk_at "pd.mem") => `(tactic| first | exact List.mem_cons_self | (refine List.mem_cons_of_mem _ ?_; walk_at "pd.mem") | assumption)
local macro_rules | `(tactic| walk_at "pd.ed") => `(tactic| first
  | ((with_reducible show ed _ (Expr.Name _ _) _ _ _); walk_at "pd.nm")
  | ((with_reducible show ed _ (Expr.Constant (Const.int _) _ _) _ _ _); refine ed_int ?_)
  | ((with_reducible show ed _ (Expr.Call _ _ _ _) _ _ _); walk_at "pd.call")
  | ((with_reducible show ed _ (Expr.Constant (Const.str _) _ _) _ _ _); refine ed_str ?_)
  | ((with_reducible show ed _ (Expr.Attribute _ _ _) _ _ _); walk_at "pd.fld")
  | ((with_reducible show ed _ (Expr.Subscript _ (Expr.Slice _ _ none _) _) _ _ _); refine ed_slc ?_)
  | ((with_reducible show ed _ (Expr.Subscript _ (Expr.Slice none none (some _) _) _) _ _ _); refine ed_rev ?_)
  | ((with_reducible show ed _ (Expr.Subscript _ _ _) _ _ _); refine ed_ix ?_)
  | ((with_reducible show ed _ (Expr.BinOp _ _ _ _) _ _ _); refine ed_bin ?_)
  | ((with_reducible show ed _ (Expr.Compare _ [_] _ _) _ _ _); refine ed_cmp (by with_unfolding_all rfl) ?_)
  | ((with_reducible show ed _ (Expr.List _ _) _ _ _); walk_at "pd.lst")
  | ((with_reducible show ed _ (Expr.Tuple _ _ _) _ _ _); refine ed_tup ?_)
  | ((with_reducible show ed _ (Expr.ListComp _ _ _ _) _ _ _); walk_at "pd.lc")
  | ((with_reducible show ed _ (Expr.DictComp _ _ _ _ _) _ _ _); walk_at "pd.dc")
  | ((with_reducible show ed _ (Expr.BoolOp _ [_] _) _ _ _); refine ed_one ?_)
  | ((with_reducible show ed _ (Expr.BoolOp BoolOp.And _ _) _ _ _); refine ed_and ?_)
  | ((with_reducible show ed _ (Expr.BoolOp BoolOp.Or _ _) _ _ _); refine ed_or ?_)
  | ((with_reducible show ed _ (Expr.IfExp _ _ _ _) _ _ _); refine ed_if ?_)
  | ((with_reducible show ed _ (Expr.UnaryOp UnaryOp.Not _ _) _ _ _); refine ed_not ?_)
  | ((with_reducible show ed _ (Expr.UnaryOp _ _ _) _ _ _); refine ed_un ?_)
  | ((with_reducible show ed _ (Expr.Constant (Const.bool _) _ _) _ _ _); refine ed_bl ?_)
  | ((with_reducible show ed _ (Expr.Constant Const.none _ _) _ _ _); refine ed_non ?_)
  | ((with_reducible show ed _ (Expr.Compare _ [_, _] _ _) _ _ _); refine ed_chain ?_)
  | fail)
local macro_rules | `(tactic| walk_at "pd.et") => `(tactic| first
  | ((with_reducible show et _ (Expr.Compare _ [_] _ _) _ _ _); refine et_cmp (by with_unfolding_all rfl) ?_)
  | ((with_reducible show et _ (Expr.Compare _ [_, _] _ _) _ _ _); refine et_chain ?_)
  | ((with_reducible show et _ (Expr.BoolOp _ _ _) _ _ _); refine et_ew ?_)
  | ((with_reducible show et _ (Expr.UnaryOp UnaryOp.Not _ _) _ _ _); refine et_not ?_)
  | refine et_val ?_
  | fail)
local macro_rules | `(tactic| walk_at "pd.ew") => `(tactic| first
  | ((with_reducible show ew _ (Expr.BoolOp BoolOp.And [_] _) _ _ _); refine ew_and1 ?_)
  | ((with_reducible show ew _ (Expr.BoolOp BoolOp.And _ _) _ _ _); refine ew_and ?_)
  | ((with_reducible show ew _ (Expr.BoolOp BoolOp.Or [_] _) _ _ _); refine ew_or1 ?_)
  | ((with_reducible show ew _ (Expr.BoolOp BoolOp.Or _ _) _ _ _); refine ew_or ?_)
  | fail)
local macro_rules | `(tactic| walk_at "pd.opd") => `(tactic| first
  | ((with_reducible show opd _ (compareOp CmpOp.Eq) (D.str _) (D.str _) _ _ _); refine opd_eqS ?_)
  | ((with_reducible show opd _ (compareOp CmpOp.Eq) (D.int _) (D.int _) _ _ _); refine opd_eqI ?_)
  | ((with_reducible show opd _ (binaryOp Operator.Add) (D.int _) (D.int _) _ _ _); refine opd_add ?_)
  | ((with_reducible show opd _ (compareOp CmpOp.Lt) (D.int _) (D.int _) _ _ _); refine opd_lt ?_)
  | ((with_reducible show opd _ (compareOp CmpOp.Is) (D.bl _) (D.bl _) _ _ _); refine opd_isB ?_)
  | ((with_reducible show opd _ (compareOp CmpOp.In) (D.str _) (D.str _) _ _ _); refine opd_inSign ?_)
  | ((with_reducible show opd _ (compareOp CmpOp.In) (D.str _) (D.tup (List.map D.str _)) _ _ _); refine opd_inS _ (.tup _) rfl ?_)
  | ((with_reducible show opd _ (compareOp CmpOp.In) (D.str _) (D.lst (List.map D.str _)) _ _ _); refine opd_inS _ (.lst _) rfl ?_)
  | ((with_reducible show opd _ (compareOp CmpOp.NotIn) (D.str _) (D.tup (List.map D.str _)) _ _ _); refine opd_notInS _ (.tup _) rfl ?_)
  | ((with_reducible show opd _ (compareOp CmpOp.NotIn) (D.str _) (D.lst (List.map D.str _)) _ _ _); refine opd_notInS _ (.lst _) rfl ?_)
  | ((with_reducible show opd _ (compareOp CmpOp.In) (D.int _) (D.lst (List.map D.int _)) _ _ _); refine opd_inI _ (.lst _) rfl ?_)
  | ((with_reducible show opd _ (compareOp CmpOp.NotIn) (D.int _) (D.lst (List.map D.int _)) _ _ _); refine opd_notInI _ (.lst _) rfl ?_)
  | ((with_reducible show opd _ (compareOp CmpOp.In) (D.int _) (D.tup (List.map D.int _)) _ _ _); refine opd_inI _ (.tup _) rfl ?_)
  | ((with_reducible show opd _ (compareOp CmpOp.NotIn) (D.int _) (D.tup (List.map D.int _)) _ _ _); refine opd_notInI _ (.tup _) rfl ?_)
  | ((with_reducible show opd _ (binaryOp Operator.Add) (D.lst _) (D.lst _) _ _ _); refine opd_cat ?_ ?_; focus (first | decide | (simp [small_le]; done) | (refine small_le ?_; simp only [List.length_append, List.length_cons, List.length_nil, List.length_map, List.length_take, List.length_drop]; omega) | fail))
  | ((with_reducible show opd _ (binaryOp Operator.Add) (D.tup _) (D.tup _) _ _ _); refine opd_catT ?_ ?_; focus (first | decide | (simp [small_le]; done) | (refine small_le ?_; simp only [List.length_append, List.length_cons, List.length_nil, List.length_map, List.length_take, List.length_drop]; omega) | fail))
  | ((with_reducible show opd _ (binaryOp Operator.Add) (D.str _) (D.str _) _ _ _); refine opd_addS (by first | assumption | decide) ?_)
  | ((with_reducible show opd _ (compareOp CmpOp.Gt) (D.int _) (D.int _) _ _ _); refine opd_gt ?_)
  | ((with_reducible show opd _ (compareOp CmpOp.LtE) (D.int _) (D.int _) _ _ _); refine opd_le ?_)
  | ((with_reducible show opd _ (compareOp CmpOp.GtE) (D.int _) (D.int _) _ _ _); refine opd_ge ?_)
  | ((with_reducible show opd _ (compareOp CmpOp.NotEq) (D.int _) (D.int _) _ _ _); refine opd_neI ?_)
  | ((with_reducible show opd _ (compareOp CmpOp.NotEq) (D.str _) (D.str _) _ _ _); refine opd_neS ?_)
  | ((with_reducible show opd _ (compareOp CmpOp.Is) _ D.non _ _ _); refine opd_isN ?_)
  | ((with_reducible show opd _ (compareOp CmpOp.IsNot) _ D.non _ _ _); refine opd_notN ?_)
  | ((with_reducible show opd _ (binaryOp Operator.Sub) (D.int _) (D.int _) _ _ _); refine opd_sub ?_)
  | ((with_reducible show opd _ (binaryOp Operator.Mult) (D.int _) (D.int _) _ _ _); refine opd_mul (by first | (refine Or.inr ⟨?_, ?_⟩ <;> decide) | (refine Or.inl ⟨?_, ?_⟩ <;> decide) | (refine Or.inl ⟨?_, ?_⟩ <;> omega) | (refine Or.inr ⟨?_, ?_⟩ <;> omega)) ?_)
  | ((with_reducible show opd _ (binaryOp Operator.Mod) (D.int _) (D.int _) _ _ _); refine opd_mod (by walk_at "pd.side") ?_)
  | ((with_reducible show opd _ (binaryOp Operator.FloorDiv) (D.int _) (D.int _) _ _ _); refine opd_fdiv (by constructor <;> walk_at "pd.side") ?_)
  | ((with_reducible show opd _ (binaryOp Operator.Pow) (D.int _) (D.int _) _ _ _); refine opd_pow (by refine ⟨?_, ?_, ?_⟩ <;> decide) ?_)
  | fail)
local macro_rules | `(tactic| walk_at "pd.ty") => `(tactic| first | exact .str _ | exact .bl _ | exact .int _ | exact .non | exact .lst _ | exact .tup _ | exact .rl _ | exact .own (by walk_at "pd.mem") | assumption)
local macro_rules | `(tactic| walk_at "pd.isi") => `(tactic| first
  | ((with_reducible show cld _ _ [D.str _, D.ty "str"] _ _ _); refine cld_isi (.str _) rfl (kit_ty kb_str_str) ?_)
  | ((with_reducible show cld _ _ [D.str _, D.ty "int"] _ _ _); refine cld_isi (.str _) rfl (kit_ty kb_str_int) ?_)
  | ((with_reducible show cld _ _ [D.str _, D.ty "bool"] _ _ _); refine cld_isi (.str _) rfl (kit_ty kb_str_bool) ?_)
  | ((with_reducible show cld _ _ [D.str _, D.ty "list"] _ _ _); refine cld_isi (.str _) rfl (kit_ty kb_str_list) ?_)
  | ((with_reducible show cld _ _ [D.str _, D.ty "tuple"] _ _ _); refine cld_isi (.str _) rfl (kit_ty kb_str_tuple) ?_)
  | ((with_reducible show cld _ _ [D.bl _, D.ty "str"] _ _ _); refine cld_isi (.bl _) rfl (kit_ty kb_bool_str) ?_)
  | ((with_reducible show cld _ _ [D.bl _, D.ty "int"] _ _ _); refine cld_isi (.bl _) rfl (kit_ty kb_bool_int) ?_)
  | ((with_reducible show cld _ _ [D.bl _, D.ty "bool"] _ _ _); refine cld_isi (.bl _) rfl (kit_ty kb_bool_bool) ?_)
  | ((with_reducible show cld _ _ [D.bl _, D.ty "list"] _ _ _); refine cld_isi (.bl _) rfl (kit_ty kb_bool_list) ?_)
  | ((with_reducible show cld _ _ [D.bl _, D.ty "tuple"] _ _ _); refine cld_isi (.bl _) rfl (kit_ty kb_bool_tuple) ?_)
  | ((with_reducible show cld _ _ [D.int _, D.ty "str"] _ _ _); refine cld_isi (.int _) rfl (kit_ty kb_int_str) ?_)
  | ((with_reducible show cld _ _ [D.int _, D.ty "int"] _ _ _); refine cld_isi (.int _) rfl (kit_ty kb_int_int) ?_)
  | ((with_reducible show cld _ _ [D.int _, D.ty "bool"] _ _ _); refine cld_isi (.int _) rfl (kit_ty kb_int_bool) ?_)
  | ((with_reducible show cld _ _ [D.int _, D.ty "list"] _ _ _); refine cld_isi (.int _) rfl (kit_ty kb_int_list) ?_)
  | ((with_reducible show cld _ _ [D.int _, D.ty "tuple"] _ _ _); refine cld_isi (.int _) rfl (kit_ty kb_int_tuple) ?_)
  | ((with_reducible show cld _ _ [D.non, D.ty "str"] _ _ _); refine cld_isi (.non) rfl (kit_ty kb_NoneType_str) ?_)
  | ((with_reducible show cld _ _ [D.non, D.ty "int"] _ _ _); refine cld_isi (.non) rfl (kit_ty kb_NoneType_int) ?_)
  | ((with_reducible show cld _ _ [D.non, D.ty "bool"] _ _ _); refine cld_isi (.non) rfl (kit_ty kb_NoneType_bool) ?_)
  | ((with_reducible show cld _ _ [D.non, D.ty "list"] _ _ _); refine cld_isi (.non) rfl (kit_ty kb_NoneType_list) ?_)
  | ((with_reducible show cld _ _ [D.non, D.ty "tuple"] _ _ _); refine cld_isi (.non) rfl (kit_ty kb_NoneType_tuple) ?_)
  | ((with_reducible show cld _ _ [D.lst _, D.ty "str"] _ _ _); refine cld_isi (.lst _) rfl (kit_ty kb_list_str) ?_)
  | ((with_reducible show cld _ _ [D.lst _, D.ty "int"] _ _ _); refine cld_isi (.lst _) rfl (kit_ty kb_list_int) ?_)
  | ((with_reducible show cld _ _ [D.lst _, D.ty "bool"] _ _ _); refine cld_isi (.lst _) rfl (kit_ty kb_list_bool) ?_)
  | ((with_reducible show cld _ _ [D.lst _, D.ty "list"] _ _ _); refine cld_isi (.lst _) rfl (kit_ty kb_list_list) ?_)
  | ((with_reducible show cld _ _ [D.lst _, D.ty "tuple"] _ _ _); refine cld_isi (.lst _) rfl (kit_ty kb_list_tuple) ?_)
  | ((with_reducible show cld _ _ [D.rl _, D.ty "str"] _ _ _); refine cld_isi (.rl _) rfl (kit_ty kb_list_str) ?_)
  | ((with_reducible show cld _ _ [D.rl _, D.ty "int"] _ _ _); refine cld_isi (.rl _) rfl (kit_ty kb_list_int) ?_)
  | ((with_reducible show cld _ _ [D.rl _, D.ty "bool"] _ _ _); refine cld_isi (.rl _) rfl (kit_ty kb_list_bool) ?_)
  | ((with_reducible show cld _ _ [D.rl _, D.ty "list"] _ _ _); refine cld_isi (.rl _) rfl (kit_ty kb_list_list) ?_)
  | ((with_reducible show cld _ _ [D.rl _, D.ty "tuple"] _ _ _); refine cld_isi (.rl _) rfl (kit_ty kb_list_tuple) ?_)
  | ((with_reducible show cld _ _ [D.tup _, D.ty "str"] _ _ _); refine cld_isi (.tup _) rfl (kit_ty kb_tuple_str) ?_)
  | ((with_reducible show cld _ _ [D.tup _, D.ty "int"] _ _ _); refine cld_isi (.tup _) rfl (kit_ty kb_tuple_int) ?_)
  | ((with_reducible show cld _ _ [D.tup _, D.ty "bool"] _ _ _); refine cld_isi (.tup _) rfl (kit_ty kb_tuple_bool) ?_)
  | ((with_reducible show cld _ _ [D.tup _, D.ty "list"] _ _ _); refine cld_isi (.tup _) rfl (kit_ty kb_tuple_list) ?_)
  | ((with_reducible show cld _ _ [D.tup _, D.ty "tuple"] _ _ _); refine cld_isi (.tup _) rfl (kit_ty kb_tuple_tuple) ?_)
  | fail)
local macro_rules | `(tactic| walk_at "pd.isiT") => `(tactic| first
  | ((with_reducible show cld _ _ [D.lst _, _] _ _ _); refine cld_isiSeq (.lst _) ?_)
  | ((with_reducible show cld _ _ [D.rl _, _] _ _ _); refine cld_isiSeq (.rl _) ?_)
  | ((with_reducible show cld _ _ [D.tup _, _] _ _ _); refine cld_isiSeq (.tup _) ?_)
  | ((with_reducible show cld _ _ [D.ref _, _] _ _ _); refine cld_isiSeq (.own (by walk_at "pd.mem")) ?_)
  | ((with_reducible show cld _ _ [D.str _, _] _ _ _); refine cld_isiNoSeq (.str _) ka_str ?_)
  | ((with_reducible show cld _ _ [D.int _, _] _ _ _); refine cld_isiNoSeq (.int _) ka_int ?_)
  | ((with_reducible show cld _ _ [D.bl _, _] _ _ _); refine cld_isiNoSeq (.bl _) ka_bool ?_)
  | ((with_reducible show cld _ _ [D.non, _] _ _ _); refine cld_isiNoSeq .non ka_NoneType ?_)
  | fail)
local macro_rules | `(tactic| walk_at "pd.cld") => `(tactic| first
  | ((with_reducible show cld _ (Value.builtin "len") [D.lst _] _ _ _); refine cld_len_lst ?_)
  | ((with_reducible show cld _ (Value.type "int") [D.int _] _ _ _); refine cld_int ?_)
  | ((with_reducible show cld _ (Value.type "str") [D.str _] _ _ _); refine cld_strS ?_)
  | ((with_reducible show cld _ (Value.type "tuple") [D.ref _] _ _ _); refine cld_tuple_own (by walk_at "pd.mem") ?_)
  | ((with_reducible show cld _ (Value.builtin "repr") [D.bl _] _ _ _); refine cld_repr_bl ?_)
  | ((with_reducible show cld _ (Value.builtin "all") [D.lst (List.map D.bl _)] _ _ _); refine cld_all rfl ?_)
  | ((with_reducible show cld _ (Value.builtin "any") [D.lst (List.map D.bl _)] _ _ _); refine cld_any rfl ?_)
  | ((with_reducible show cld _ (Value.builtin "len") [D.str _] _ _ _); refine cld_len_str (by walk_at "pd.side") ?_)
  | ((with_reducible show cld _ (Value.builtin "isinstance") [_, D.tup _] _ _ _); walk_at "pd.isiT")
  | ((with_reducible show cld _ (Value.builtin "isinstance") [_, _] _ _ _); walk_at "pd.isi")
  | ((with_reducible show cld _ (Value.builtin "len") [D.tup _] _ _ _); refine cld_len_tup ?_)
  | ((with_reducible show cld _ (Value.builtin "len") [D.ref _] _ _ _); first | refine cld_len_own (by walk_at "pd.mem") ?_ | refine cld_len_Y (Or.inl (by walk_at "pd.mem")) ?_)
  | ((with_reducible show cld _ (Value.builtin "len") [D.rl _] _ _ _); refine cld_len_rl ?_)
  | ((with_reducible show cld _ (Value.builtin "abs") [D.int _] _ _ _); refine cld_abs ?_)
  | ((with_reducible show cld _ (Value.type "tuple") [D.lst _] _ _ _); refine cld_tuple_lst ?_)
  | ((with_reducible show cld _ (Value.type "tuple") [D.tup _] _ _ _); refine cld_tuple_tup ?_)
  | ((with_reducible show cld _ (Value.type "list") [D.tup _] _ _ _); walk_at "pd.listT")
  | ((with_reducible show cld _ (Value.type "list") [D.lst _] _ _ _); walk_at "pd.listL")
  | fail)
local macro_rules | `(tactic| walk_at "pd.ixd") => `(tactic| first
  | ((with_reducible show ixd _ (D.ref _) (D.int _) _ _ _); refine ixd_own (by walk_at "pd.mem") (by rfl) ?_)
  | ((with_reducible show ixd _ (D.lst (_ :: _)) (D.int 0) _ _ _); refine ixd_lst atI_zero ?_)
  | ((with_reducible show ixd _ (D.tup (_ :: _)) (D.int 0) _ _ _); refine ixd_tup atI_zero ?_)
  | ((with_reducible show ixd _ (D.lst _) (D.int _) _ _ _); refine ixd_lst (by rfl) ?_)
  | ((with_reducible show ixd _ (D.tup _) (D.int _) _ _ _); refine ixd_tup (by rfl) ?_)
  | fail)
local macro_rules | `(tactic| walk_at "pd.sd") => `(tactic| first
  | ((with_reducible show sd _ (Stmt.Assign [Expr.Name _ _] _ _) _ _ _); walk_at "pd.set")
  | ((with_reducible show sd _ (Stmt.If _ _ _ _) _ _ _); refine sd_if ?_)
  | ((with_reducible show sd _ (Stmt.Return (some _) _) _ _ _); refine sd_ret ?_)
  | ((with_reducible show sd _ (Stmt.Expr (Expr.Constant _ _ _) _) _ _ _); refine sd_doc ?_)
  | ((with_reducible show sd _ (Stmt.Expr _ _) _ _ _); refine sd_expr ?_)
  | ((with_reducible show sd _ (Stmt.Assign [Expr.Attribute _ _ _] _ _) _ _ _); walk_at "pd.sfld")
  | ((with_reducible show sd _ (Stmt.Assign [Expr.Tuple [_, _] _ _] (Expr.Tuple [_, _] _ _) _) _ _ _); walk_at "pd.par")
  | ((with_reducible show sd _ (Stmt.Assign [Expr.Tuple [_, _, _] _ _] (Expr.Tuple [_, _, _] _ _) _) _ _ _); walk_at "pd.par")
  | ((with_reducible show sd _ (Stmt.Assign _ _ _) _ _ _); refine sd_asg ?_)
  | ((with_reducible show sd _ (Stmt.Return none _) _ _ _); refine sd_retN ?_)
  | ((with_reducible show sd _ (Stmt.Pass _) _ _ _); refine sd_pass ?_)
  | ((with_reducible show sd _ (Stmt.AugAssign (Expr.Name _ _) _ _ _) _ _ _); walk_at "pd.aug")
  | ((with_reducible show sd _ (Stmt.Raise _ _ _) _ _ _); walk_at "pd.raise")
  | ((with_reducible show sd _ (Stmt.Try _ _ _ _ _) _ _ _); walk_at "pd.try")
  | fail)
local macro_rules | `(tactic| walk_at "pd.gd") => `(tactic| first
  | walk_at "pd.g"
  | ((with_reducible show gd _ (Expr.Subscript _ _ _) _ _ _ _); refine gd_setL ?_)
  | ((with_reducible show gd _ (Expr.Tuple _ _ _) (D.tup _) _ _ _); refine gd_tup rfl ⟨rfl, ?_⟩)
  | ((with_reducible show gv _ (Expr.Tuple _ _ _) (D.tup _) _ _ _ _); refine gv_tup rfl ⟨rfl, ?_⟩)
  | fail)
local macro_rules | `(tactic| walk_at "pd.l") => `(tactic| first
  | (with_reducible refine exB ?_)
  | (with_reducible refine iteT ?_) | (with_reducible refine iteF ?_)
  | ((with_reducible show if List.isEmpty (_ :: _) = true then _ else _); refine iteFr rfl ?_)
  | ((with_reducible show if List.isEmpty [] = true then _ else _); refine iteTr rfl ?_)
  | ((with_reducible show if isBlD _ = true then _ else _); first | (refine iteTr (by rfl) ?_) | (refine iteFr (by rfl) ?_))
  | ((with_reducible show if (!isBlD _) = true then _ else _); first | (refine iteTr (by rfl) ?_) | (refine iteFr (by rfl) ?_))
  | ((with_reducible show if isStrD _ = true then _ else _); first | (refine iteTr (by rfl) ?_) | (refine iteFr (by rfl) ?_))
  | ((with_reducible show if (!isStrD _) = true then _ else _); first | (refine iteTr (by rfl) ?_) | (refine iteFr (by rfl) ?_))
  | ((with_reducible show List.length _ ≤ 1000 ∧ _); refine ⟨by first | decide | (simp; done), ?_⟩)
  | ((with_reducible show List.length _ = _ ∧ _); refine ⟨rfl, ?_⟩)
  | ((with_reducible show ∃ (x : D) (xs : List D), [_] = [x] ∧ SeqD _ x xs ∧ _); refine ⟨_, _, rfl, by first | exact .lst _ | exact .tup _ | exact .own (by walk_at "pd.mem") | assumption, ?_⟩)
  | ((with_reducible show ∃ (d d' : D), [_, _] = [d, d'] ∧ _); refine ⟨_, _, rfl, ?_⟩)
  | ((with_reducible show ∃ (d d' d'' : D), [_, _, _] = [d, d', d''] ∧ _); refine ⟨_, _, _, rfl, ?_⟩)
  | ((with_reducible show tyD "list" (D.ref _) _ ∧ _); refine ⟨Or.inl ⟨_, by walk_at "pd.mem", rfl⟩, ?_⟩)
  | ((with_reducible show tyD _ (D.str _) _ ∧ _); refine ⟨rfl, ?_⟩)
  | ((with_reducible show tyD _ (D.lst _) _ ∧ _); refine ⟨rfl, ?_⟩)
  | ((with_reducible show tyD "dict" (D.ref _) _ ∧ _); refine ⟨Or.inr (Or.inl ⟨_, _, by walk_at "pd.mem", rfl⟩), ?_⟩)
  | (with_reducible refine exI ?_)
  | ((with_reducible show ∃ (p : Addr) (dx : Addr) (ns : List Str) (ds : List D) (μa μb : Mu), _); refine ⟨_, _, _, _, [], _, rfl, rfl, of_decide_eq_true rfl, ?_⟩)
  | ((with_reducible show ∃ (d : D), FldD _ _ _ _ d ∧ _); first | refine ⟨_, ⟨rfl, rfl⟩, ?_⟩ | refine ⟨_, ⟨_, _, _, by walk_at "pd.mem", rfl⟩, ?_⟩)
  | ((with_reducible show if (!false) = true then _ else _); refine iteT ?_) | ((with_reducible show if (!true) = true then _ else _); refine iteF ?_)
  | ((with_reducible show if (!List.isEmpty []) = true then _ else _); refine iteF ?_) | ((with_reducible show if (!List.isEmpty (_ :: _)) = true then _ else _); refine iteT ?_)
  | fail)
local macro_rules | `(tactic| walk_at "pd1") => `(tactic| first
  | ((with_reducible show ed _ _ _ _ _); walk_at "pd.ed")
  | ((with_reducible show opd _ _ _ _ _ _ _); walk_at "pd.opd")
  | ((with_reducible show ea _ [] _ _ _); refine ea_nil ?_)
  | ((with_reducible show ea _ (Expr.Starred _ _ :: _) _ _ _); refine ea_star ?_)
  | ((with_reducible show ea _ (_ :: _) _ _ _); refine ea_cons ?_)
  | ((with_reducible show et _ _ _ _ _); walk_at "pd.et")
  | ((with_reducible show sds _ (_ :: _) _ _ _); refine sds_cons ?_)
  | ((with_reducible show sds _ [] _ _ _); refine sds_nil ?_)
  | ((with_reducible show sd _ _ _ _ _); walk_at "pd.sd")
  | walk_at "pd.l"
  | ((with_reducible show cld _ _ _ _ _ _); walk_at "pd.cld")
  | ((with_reducible show ew _ _ _ _ _); walk_at "pd.ew")
  | ((with_reducible show ixd _ _ _ _ _ _); walk_at "pd.ixd")
  | ((with_reducible show gd _ _ _ _ _ _); walk_at "pd.gd")
  | ((with_reducible show gv _ _ _ _ _ _ _); walk_at "pd.gd")
  | ((with_reducible show gds _ [] [] _ _ _); refine gds_nil ?_)
  | ((with_reducible show gds _ (_ :: _) (_ :: _) _ _ _); refine gds_cons ?_)
  | ((with_reducible show gvs _ [] [] _ _ _ _); refine gvs_nil ?_)
  | ((with_reducible show gvs _ (_ :: _) (_ :: _) _ _ _ _); refine gvs_cons ?_)
  | ((with_reducible show PD.allB _ _ _); intro _ _ _ _ _ _ _ _)
  | ((with_reducible show PD.allX _ _ _ _); intro _ _ _ _ _ _ _ _ _ _ _)
  | ((with_reducible show eif _ [] _ _ _); refine eif_nil ?_)
  | ((with_reducible show eif _ [_] _ _ _); refine eif_one ?_)
  | ((with_reducible show eif _ (_ :: _ :: _) _ _ _); refine eif_cons ?_)
  | ((with_reducible show eo _ none _ _ _); refine eo_none ?_)
  | ((with_reducible show eo _ (some _) _ _ _); refine eo_some ?_)
  | ((with_reducible show slc _ (D.lst _) _ _ _ _ _); refine slc_lst ?_)
  | ((with_reducible show slc _ (D.str _) _ _ _ _ _); refine slc_str (by walk_at "pd.side") ?_)
  | ((with_reducible show mtd _ "str.startswith" (D.str _) [D.str _] _ _ _); refine mtd_startswith ?_)
  | ((with_reducible show ∃ (xs : List D), SeqD _ (D.ref _) xs ∧ _); refine ⟨_, .own (by walk_at "pd.mem"), ?_⟩)
  | ((with_reducible show InsD _ _ _ _ ∧ _); refine ⟨⟨rfl, by decide⟩, ?_⟩)
  | ((with_reducible show ∃ (xs : List D), SeqD _ (D.lst _) xs ∧ _); refine ⟨_, .lst _, ?_⟩)
  | ((with_reducible show ∃ (xs : List D), SeqD _ (D.tup _) xs ∧ _); refine ⟨_, .tup _, ?_⟩)
  | ((with_reducible show slc _ (D.tup _) _ _ _ _ _); refine slc_tup ?_)
  | ((with_reducible show slc _ (D.rl _) _ _ _ _ _); refine slc_rl ?_)
  | ((with_reducible show eid _ _ _ _ _ _); walk_at "pd.it")
  | ((with_reducible show itd _ _ (D.str _) _ _ _); refine itd_str ?_)
  | ((with_reducible show itd _ _ (D.lst _) _ _ _); refine itd_lst ?_)
  | ((with_reducible show itd _ _ (D.tup _) _ _ _); refine itd_tup ?_)
  | ((with_reducible show itd _ _ (D.rl _) _ _ _); refine itd_rl ?_)
  | ((with_reducible show und _ (unaryOp UnaryOp.USub) (D.int _) _ _ _); refine und_neg ?_)
  | fail)
/-- the steps one after another -/
local macro_rules | `(tactic| walk_at "pd") => `(tactic| repeat' walk_at "pd1")
/-- the steps up to the next statement -/
local macro_rules | `(tactic| walk_at "pdS1") => `(tactic| (fail_if_success (with_reducible show sds _ (_ :: _) _ _ _)); walk_at "pd1")
local macro_rules | `(tactic| walk_at "pdS") => `(tactic| repeat' walk_at "pdS1")
/-- the steps up to the next list display -/
local macro_rules | `(tactic| walk_at "pdL1") => `(tactic| (fail_if_success (with_reducible show ed _ (Expr.List _ _) _ _ _)); walk_at "pd1")
local macro_rules | `(tactic| walk_at "pdL") => `(tactic| repeat' walk_at "pdL1")
/-- the steps up to a field's owner -/
local macro_rules | `(tactic| walk_at "pdF1") => `(tactic| (fail_if_success (with_reducible show ∃ (d : D), FldD _ _ _ _ d ∧ _)); walk_at "pd1")
local macro_rules | `(tactic| walk_at "pdF") => `(tactic| repeat' walk_at "pdF1")
local macro_rules | `(tactic| walk_at "pd.fldX") => `(tactic| first | refine ⟨_, ⟨by (with_reducible refine ga_same ?_); rfl, by rfl⟩, ?_⟩ | refine ⟨_, ⟨_, _, _, by walk_at "pd.mem", rfl⟩, ?_⟩)
/-- the steps up to the next subscript -/
local macro_rules | `(tactic| walk_at "pdX1") => `(tactic| (fail_if_success (with_reducible show ed _ (Expr.Subscript _ _ _) _ _ _)); walk_at "pd1")
local macro_rules | `(tactic| walk_at "pdX") => `(tactic| repeat' walk_at "pdX1")
/-! ### the source of draws -/
/-- the deal: two owned lists -/
@[reducible] def dealM (p q : Addr) (l : List Int) (m : Int) : Mu := [(p, .lst [.ref q, .int m]), (q, .lst (l.map .int))]
structure DealOk (l : List Int) (m : Int) : Prop where
  m0 : 0 ≤ m
  m1 : m < 2147483647
  l0 : ∀ z ∈ l, 0 ≤ z
  ll : l.length ≤ 100
/-- the cells with the deal ahead -/
def Deal (p q : Addr) (μr μ : Mu) : Prop := ∃ l m, DealOk l m ∧ μ = dealM p q l m ++ μr
section
variable {P : Program} {w : World} {K : PySem.W.Frag} {mg : Str → Option Value} {base : Heap}
def spDraw : SpD := fun ds μ Q _ => ∃ p q μr n, ds = [.ref p, .int n] ∧ Deal p q μr μ ∧ 0 < n ∧ n < 1000000 ∧ ∀ r μ', 0 ≤ r → r < n → Deal p q μr μ' → Q (.int r) μ'
section
abbrev N_draw : List Str := ["_law_deal_here", "_law_many", "_law_left"]
theorem sc_draw : FnScope N_draw ["_law_deal_here", "_law_many"] (defScope sdraw) := ⟨rfl, rfl, rfl, by decide +kernel, rfl, by decide +kernel, by decide +kernel⟩
theorem v_draw_deal_here : Nm N_draw (defScope sdraw) 0 "_law_deal_here" := ⟨rfl, by decide +kernel, by decide +kernel, by decide +kernel⟩
theorem v_draw_many : Nm N_draw (defScope sdraw) 1 "_law_many" := ⟨rfl, by decide +kernel, by decide +kernel, by decide +kernel⟩
theorem v_draw_left : Nm N_draw (defScope sdraw) 2 "_law_left" := ⟨rfl, by decide +kernel, by decide +kernel, by decide +kernel⟩
theorem gl_draw_int : (defScope sdraw).names.lookup ("int" : Str) = some .globalImplicit := by decide +kernel
local macro_rules | `(tactic| walk_at "pd.nm") => `(tactic| first
  | ((with_reducible show ed _ (Expr.Name "_law_deal_here" _) _ _ _); first | refine ed_nm v_draw_deal_here rfl ?_ | refine ed_nmB (sc := defScope sdraw) v_draw_deal_here rfl ?_)
  | ((with_reducible show ed _ (Expr.Name "_law_many" _) _ _ _); first | refine ed_nm v_draw_many rfl ?_ | refine ed_nmB (sc := defScope sdraw) v_draw_many rfl ?_)
  | ((with_reducible show ed _ (Expr.Name "_law_left" _) _ _ _); first | refine ed_nm v_draw_left rfl ?_ | refine ed_nmB (sc := defScope sdraw) v_draw_left rfl ?_)
  | ((with_reducible show ed _ (Expr.Name "int" _) _ _ _); refine ed_ty (n := "int") (b_int (by assumption)) bb_int ?_ (hg := by first | exact gl_of gl_draw_int))
  | fail)
local macro_rules | `(tactic| walk_at "pd.set") => `(tactic| first
  | ((with_reducible show sd _ (Stmt.Assign [Expr.Name "_law_left" _] _ _) _ _ _); refine sd_nm v_draw_left sc_draw.nd ?_)
  | fail)
local macro_rules | `(tactic| walk_at "pd.g") => `(tactic| first
  | ((with_reducible show gd _ (Expr.Name "_law_left" _) _ _ _ _); refine gd_nm v_draw_left sc_draw.nd ?_)
  | fail)
local macro_rules | `(tactic| walk_at "pd.call") => `(tactic| first
  | ((with_reducible show ed _ (Expr.Call (Expr.Attribute _ "pop" _) [] _ _) _ _ _); with_reducible refine ed_bm0 PySem.F.plainAttrs_list PySem.F.slot_list_pop PySem.F.type_list_pop ?_)
  | ((with_reducible show ed _ (Expr.Call (Expr.Attribute _ "append" _) (_ :: _) _ _) _ _ _); with_reducible refine ed_bm PySem.F.plainAttrs_list PySem.F.slot_list_append PySem.F.type_list_append ?_)
  | ((with_reducible show ed _ (Expr.Call (Expr.Name "int" _) (_ :: _) _ _) _ _ _); refine ed_callTy (T := "int") (b_int (by assumption)) bb_int ?_ (hg := by first | exact gl_of gl_draw_int))
  | fail)
local macro_rules | `(tactic| walk_at "pd.it") => `(tactic| first
  | ((with_reducible show eid _ _ _ _ _ _); refine eid_of ?_)
  | fail)
theorem ok_draw (T : T0 w K mg) : CallD P w K mg base 1 (He.ga K "_law_draw") 2 [] spDraw := by
  obtain ⟨fd, F⟩ := f_draw T
  refine CallD.mk0 (ps := ["_law_deal_here", "_law_many"]) F (fun _ _ _ _ _ _ us hl => match us, hl with | [_, _], _ => rfl) (fnD_of F sc_draw fun cdv A outer s H F0 μ ds Qd Ed hr hl h => ?_)
  obtain ⟨p, q, μr, n, rfl, ⟨l, m, ⟨hm0, hm1, hl0, hl1⟩, rfl⟩, hn0, hn1, k⟩ := h
  have hu := hr.units
  have hq : ∀ (l' : List Int) (m' : Int), (q, Cell.lst (l'.map .int)) ∈ dealM p q l' m' ++ μr := fun l' _ => List.mem_cons_of_mem _ List.mem_cons_self
  show sds _ _ [some (.ref p), some (.int n), none] _ _
  -- while
  refine sds_cut (fun δ' μ' => ∃ l', δ' = [some (.ref p), some (.int n), none] ∧ μ' = dealM p q l' m ++ μr ∧ (∀ z ∈ l', 0 ≤ z) ∧ l'.length ≤ 100) ?_ ?_
  · refine sd_while (fun x δ' μ' => ∃ l', δ' = [some (.ref p), some (.int n), none] ∧ μ' = dealM p q l' m ++ μr ∧ x = l'.length ∧ (∀ z ∈ l', 0 ≤ z) ∧ l'.length ≤ 100) l.length ⟨l, rfl, rfl, rfl, hl0, hl1⟩ ?_
    rintro x δ' μ' ⟨l', rfl, rfl, rfl, h1, h2⟩
    walk_at "pd"
    refine opd_neV (x' := .lst (l'.map .int)) (y' := .lst []) hu (.own (hq _ _)) (.same _) (ok_ints _) (by rfl) (depth_ints _) (by decide) ?_
    rw [eqD_nil]
    rcases nil_or_snoc l' with rfl | ⟨l0, z, rfl⟩
    · walk_at "pd"
      exact ⟨[], rfl, rfl, h1, h2⟩
    · rw [map_concat_int]
      have e : (l0.map D.int ++ [D.int z]).isEmpty = false := by cases l0 <;> rfl
      rw [e]
      have h3 : (q, Cell.lst (l0.map D.int ++ [D.int z])) ∈ dealM p q (l0 ++ [z]) m ++ μr := by
        have := hq (l0 ++ [z]) m
        rw [map_concat_int] at this; exact this
      walk_at "pd"
      refine ixd_own h3 (atI_last' _ _) ?_
      walk_at "pd"
      refine ite2 (fun hz => ?_) (fun hz => ?_)
      · walk_at "pd"
        have eμ : dealM p q (l0 ++ [z]) m ++ μr = [(p, Cell.lst [.ref q, .int m])] ++ (q, Cell.lst (l0.map D.int ++ [D.int z])) :: μr := by
          show [(p, Cell.lst [.ref q, .int m]), (q, Cell.lst ((l0 ++ [z]).map D.int))] ++ μr = _
          rw [map_concat_int]; rfl
        rw [eμ]
        refine mtd_pop (d := .int z) (by simp) ?_
        rw [List.dropLast_concat]
        walk_at "pd"
        exact ⟨l0.length, by simp, l0, rfl, rfl, rfl, fun y hy => h1 y (by simp [hy]), by simp at h2; omega⟩
      · walk_at "pd"
        exact ⟨l0 ++ [z], rfl, rfl, h1, h2⟩
  · rintro δ' μ' ⟨l', rfl, rfl, h1, h2⟩
    walk_at "pd"
    refine opd_neV (x' := .lst (l'.map .int)) (y' := .lst []) hu (.own (hq _ _)) (.same _) (ok_ints _) (by rfl) (depth_ints _) (by decide) ?_
    rw [eqD_nil]
    rcases nil_or_snoc l' with rfl | ⟨l0, z, rfl⟩
    · rw [List.map_nil]
      walk_at "pd"
      refine ⟨p, 1, 1, [.ref q, .int m], [], _, rfl, rfl, rfl, rfl, ?_⟩
      walk_at "pd"
      exact k _ _ (Int.emod_nonneg _ (by omega)) (Int.emod_lt_of_pos _ hn0) ⟨[], _, ⟨Int.emod_nonneg _ (by decide), Int.emod_lt_of_pos _ (by decide), (fun z hz => by cases hz), by decide⟩, rfl⟩
    · rw [map_concat_int]
      have e : (l0.map D.int ++ [D.int z]).isEmpty = false := by cases l0 <;> rfl
      rw [e]
      have eμ : dealM p q (l0 ++ [z]) m ++ μr = [(p, Cell.lst [.ref q, .int m])] ++ (q, Cell.lst (l0.map D.int ++ [D.int z])) :: μr := by
        show [(p, Cell.lst [.ref q, .int m]), (q, Cell.lst ((l0 ++ [z]).map D.int))] ++ μr = _
        rw [map_concat_int]; rfl
      rw [eμ]
      walk_at "pd"
      refine mtd_pop (d := .int z) (by simp) ?_
      rw [List.dropLast_concat]
      walk_at "pd"
      refine mtd_append (μ1 := [(p, _)]) (small_lt (by simp at h2 ⊢; omega)) ?_
      rw [← map_concat_int]
      have z0 : 0 ≤ z := h1 z (by simp)
      have z1 : 0 ≤ z / n := Int.ediv_nonneg z0 (by omega)
      walk_at "pd"
      refine k _ _ (Int.emod_nonneg _ (by omega)) (Int.emod_lt_of_pos _ hn0) ⟨l0 ++ [z / n], m, ⟨hm0, hm1, fun y hy => ?_, by simp at h2 ⊢; omega⟩, rfl⟩
      rcases List.mem_append.mp hy with e | e
      · exact h1 y (by simp [e])
      · rw [List.mem_singleton.mp e]; exact z1
end
/-! ### one of some things -/
def spPick : SpD := fun ds μ Q _ => ∃ p q μr x xs, ds = [.ref p, x] ∧ (x = .lst xs ∨ x = .tup xs) ∧ Deal p q μr μ ∧ xs ≠ [] ∧ xs.length < 1000000 ∧ ∀ d ∈ xs, ∀ μ', Deal p q μr μ' → Q d μ'
theorem atI_in {α : Type} {xs : List α} {r : Int} (h0 : 0 ≤ r) (h1 : r < xs.length) : ∃ d ∈ xs, atI xs r = some d := by
  have h : r.toNat < xs.length := by omega
  have e := atI_nat (xs := xs) (j := r.toNat) (List.getElem?_eq_getElem h)
  rw [Int.toNat_of_nonneg h0] at e
  exact ⟨xs[r.toNat], List.getElem_mem h, e⟩
section
abbrev N_pick : List Str := ["_law_deal_here", "_law_some"]
theorem sc_pick : FnScope N_pick ["_law_deal_here", "_law_some"] (defScope spick) := ⟨rfl, rfl, rfl, by decide +kernel, rfl, by decide +kernel, by decide +kernel⟩
theorem v_pick_deal_here : Nm N_pick (defScope spick) 0 "_law_deal_here" := ⟨rfl, by decide +kernel, by decide +kernel, by decide +kernel⟩
theorem v_pick_some : Nm N_pick (defScope spick) 1 "_law_some" := ⟨rfl, by decide +kernel, by decide +kernel, by decide +kernel⟩
theorem gl_pick_draw : (defScope spick).names.lookup ("_law_draw" : Str) = some .globalImplicit := by decide +kernel
theorem gl_pick_len : (defScope spick).names.lookup ("len" : Str) = some .globalImplicit := by decide +kernel
local macro_rules | `(tactic| walk_at "pd.nm") => `(tactic| first
  | ((with_reducible show ed _ (Expr.Name "_law_deal_here" _) _ _ _); first | refine ed_nm v_pick_deal_here rfl ?_ | refine ed_nmB (sc := defScope spick) v_pick_deal_here rfl ?_)
  | ((with_reducible show ed _ (Expr.Name "_law_some" _) _ _ _); first | refine ed_nm v_pick_some rfl ?_ | refine ed_nmB (sc := defScope spick) v_pick_some rfl ?_)
  | fail)
local macro_rules | `(tactic| walk_at "pd.call") => `(tactic| first
  | ((with_reducible show ed _ (Expr.Call (Expr.Name "_law_draw" _) (_ :: _) _ _) _ _ _); refine ed_callC ((ok_draw (by assumption)).at_ _) (by assumption) (by decide) (g_draw (by assumption)) ?_ (hg := by first | exact gl_of gl_pick_draw))
  | ((with_reducible show ed _ (Expr.Call (Expr.Name "len" _) (_ :: _) _ _) _ _ _); refine ed_callB (id := "len") (b_len (by assumption)) bb_len ?_ (hg := by first | exact gl_of gl_pick_len))
  | fail)
local macro_rules | `(tactic| walk_at "pd.it") => `(tactic| first
  | ((with_reducible show eid _ _ _ _ _ _); refine eid_of ?_)
  | fail)
theorem ok_pick (T : T0 w K mg) : CallD P w K mg base 2 (He.ga K "_law_pick") 2 [] spPick := by
  obtain ⟨fd, F⟩ := f_pick T
  refine CallD.mk0 (ps := ["_law_deal_here", "_law_some"]) F (fun _ _ _ _ _ _ us hl => match us, hl with | [_, _], _ => rfl) (fnD_of F sc_pick fun cdv A outer s H F0 μ ds Qd Ed hr hl h => ?_)
  obtain ⟨p, q, μr, x, xs, rfl, hx, hD, hne, hlen, k⟩ := h
  have hpos : 0 < xs.length := List.length_pos_iff.mpr hne
  show sds _ _ [some (.ref p), some x] _ _
  refine sds_cons ?_
  rcases hx with rfl | rfl
  · walk_at "pd"
    refine ⟨p, q, μr, _, rfl, hD, by omega, by omega, fun r μ' h0 h1 hD' => ?_⟩
    obtain ⟨d, hd, e⟩ := atI_in h0 h1
    exact ixd_lst e (k d hd μ' hD')
  · walk_at "pd"
    refine ⟨p, q, μr, _, rfl, hD, by omega, by omega, fun r μ' h0 h1 hD' => ?_⟩
    obtain ⟨d, hd, e⟩ := atI_in h0 h1
    exact ixd_tup e (k d hd μ' hD')
end
end
section
variable {P : Program} {w : World} {K : PySem.W.Frag} {mg : Str → Option Value} {base : Heap}
/-! ### the deal is made -/
def spDeal : SpD := fun ds μ Q _ => ∃ (ns : List Int) (b : Int), ds = [.rl (ns.map .int), .int b] ∧ 0 ≤ b ∧ b ≤ 62 ∧ ns.length ≤ 63 ∧ ∀ p q μ', Deal p q μ μ' → Q (.ref p) μ'
section
abbrev N_deal : List Str := ["_law_script", "_law_base", "_law_cells", "_law_cell", "_law_mixed"]
theorem sc_deal : FnScope N_deal ["_law_script", "_law_base"] (defScope sdeal) := ⟨rfl, rfl, rfl, by decide +kernel, rfl, by decide +kernel, by decide +kernel⟩
theorem v_deal_script : Nm N_deal (defScope sdeal) 0 "_law_script" := ⟨rfl, by decide +kernel, by decide +kernel, by decide +kernel⟩
theorem v_deal_base : Nm N_deal (defScope sdeal) 1 "_law_base" := ⟨rfl, by decide +kernel, by decide +kernel, by decide +kernel⟩
theorem v_deal_cells : Nm N_deal (defScope sdeal) 2 "_law_cells" := ⟨rfl, by decide +kernel, by decide +kernel, by decide +kernel⟩
theorem v_deal_cell : Nm N_deal (defScope sdeal) 3 "_law_cell" := ⟨rfl, by decide +kernel, by decide +kernel, by decide +kernel⟩
theorem w_deal_cell : NmB N_deal 3 "_law_cell" := ⟨rfl, by decide +kernel, by decide +kernel⟩
theorem v_deal_mixed : Nm N_deal (defScope sdeal) 4 "_law_mixed" := ⟨rfl, by decide +kernel, by decide +kernel, by decide +kernel⟩
theorem gl_deal_int : (defScope sdeal).names.lookup ("int" : Str) = some .globalImplicit := by decide +kernel
theorem sl_deal_cells : (defScope sdeal).names.lookup ("_law_cells" : Str) = some .local := by decide +kernel
theorem sl_deal_cell : (defScope sdeal).names.lookup ("_law_cell" : Str) = some .local := by decide +kernel
theorem sl_deal_mixed : (defScope sdeal).names.lookup ("_law_mixed" : Str) = some .local := by decide +kernel
local macro_rules | `(tactic| walk_at "pd.nm") => `(tactic| first
  | ((with_reducible show ed _ (Expr.Name "_law_script" _) _ _ _); first | refine ed_nm v_deal_script rfl ?_ | refine ed_nmB (sc := defScope sdeal) v_deal_script rfl ?_)
  | ((with_reducible show ed _ (Expr.Name "_law_base" _) _ _ _); first | refine ed_nm v_deal_base rfl ?_ | refine ed_nmB (sc := defScope sdeal) v_deal_base rfl ?_)
  | ((with_reducible show ed _ (Expr.Name "_law_cells" _) _ _ _); first | refine ed_nm v_deal_cells rfl ?_ | refine ed_nmB (sc := defScope sdeal) v_deal_cells rfl ?_)
  | ((with_reducible show ed _ (Expr.Name "_law_cell" _) _ _ _); first | refine ed_nm v_deal_cell rfl ?_ | refine ed_nmB (sc := defScope sdeal) v_deal_cell rfl ?_)
  | ((with_reducible show ed _ (Expr.Name "_law_cell" _) _ _ _); refine ed_nmC (sc := defScope sdeal) w_deal_cell rfl ?_)
  | ((with_reducible show ed _ (Expr.Name "_law_mixed" _) _ _ _); first | refine ed_nm v_deal_mixed rfl ?_ | refine ed_nmB (sc := defScope sdeal) v_deal_mixed rfl ?_)
  | ((with_reducible show ed _ (Expr.Name "int" _) _ _ _); refine ed_ty (n := "int") (b_int (by assumption)) bb_int ?_ (hg := by first | exact gl_of gl_deal_int | exact glB_of (sc := defScope sdeal)))
  | fail)
local macro_rules | `(tactic| walk_at "pd.set") => `(tactic| first
  | ((with_reducible show sd _ (Stmt.Assign [Expr.Name "_law_cells" _] (Expr.ListComp _ _ _ _) _) _ _ _); refine sd_setLc (own := [("_law_cell", 3)]) (i := 2) rfl sc_deal.nd rfl (by exact sl_deal_cells) (sw_true rfl (by exact sl_deal_cells) rfl (by decide +kernel)) (blkOk_by (N := N_deal) (sc := defScope sdeal) (by decide +kernel)) ?_)
  | ((with_reducible show sd _ (Stmt.Assign [Expr.Name "_law_cell" _] (Expr.ListComp _ _ _ _) _) _ _ _); refine sd_setLc (own := [("_law_cell", 3)]) (i := 3) rfl sc_deal.nd rfl (by exact sl_deal_cell) (sw_true rfl (by exact sl_deal_cell) rfl (by decide +kernel)) (blkOk_by (N := N_deal) (sc := defScope sdeal) (by decide +kernel)) ?_)
  | ((with_reducible show sd _ (Stmt.Assign [Expr.Name "_law_mixed" _] (Expr.ListComp _ _ _ _) _) _ _ _); refine sd_setLc (own := [("_law_cell", 3)]) (i := 4) rfl sc_deal.nd rfl (by exact sl_deal_mixed) (sw_true rfl (by exact sl_deal_mixed) rfl (by decide +kernel)) (blkOk_by (N := N_deal) (sc := defScope sdeal) (by decide +kernel)) ?_)
  | ((with_reducible show sd _ (Stmt.Assign [Expr.Name "_law_cells" _] _ _) _ _ _); refine sd_nm v_deal_cells sc_deal.nd ?_)
  | ((with_reducible show sd _ (Stmt.Assign [Expr.Name "_law_cell" _] _ _) _ _ _); refine sd_nm v_deal_cell sc_deal.nd ?_)
  | ((with_reducible show sd _ (Stmt.Assign [Expr.Name "_law_mixed" _] _ _) _ _ _); refine sd_nm v_deal_mixed sc_deal.nd ?_)
  | fail)
local macro_rules | `(tactic| walk_at "pd.g") => `(tactic| first
  | ((with_reducible show gd _ (Expr.Name "_law_cells" _) _ _ _ _); refine gd_nm v_deal_cells sc_deal.nd ?_)
  | ((with_reducible show gd _ (Expr.Name "_law_cell" _) _ _ _ _); refine gd_nm v_deal_cell sc_deal.nd ?_)
  | ((with_reducible show gv _ (Expr.Name "_law_cell" _) _ _ _ _ _); refine gv_nmC (sc := defScope sdeal) w_deal_cell sc_deal.nd (by decide) ?_)
  | ((with_reducible show gd _ (Expr.Name "_law_mixed" _) _ _ _ _); refine gd_nm v_deal_mixed sc_deal.nd ?_)
  | fail)
local macro_rules | `(tactic| walk_at "pd.call") => `(tactic| first
  | ((with_reducible show ed _ (Expr.Call (Expr.Name "abs" _) (_ :: _) _ _) _ _ _); refine ed_callB (id := "abs") (b_abs (by assumption)) bb_abs ?_ (hg := by first | exact glB_of (sc := defScope sdeal)))
  | ((with_reducible show ed _ (Expr.Call (Expr.Name "int" _) (_ :: _) _ _) _ _ _); refine ed_callTy (T := "int") (b_int (by assumption)) bb_int ?_ (hg := by first | exact gl_of gl_deal_int | exact glB_of (sc := defScope sdeal)))
  | fail)
local macro_rules | `(tactic| walk_at "pd.lc") => `(tactic| first
  | ((with_reducible show ed _ (Expr.ListComp _ [_] _ _) _ _ _); refine ed_lc (own := [("_law_cell", 3)]) [("_law_cell", 3)] rfl rfl sc_deal.nd (blkOk_by (N := N_deal) (sc := defScope sdeal) (by decide +kernel)) ?_)
  | fail)
local macro_rules | `(tactic| walk_at "pd.it") => `(tactic| first
  | ((with_reducible show eid _ _ _ _ _ _); refine eid_of ?_)
  | fail)
theorem ok_deal (T : T0 w K mg) : CallD P w K mg base 1 (He.ga K "_law_deal") 2 [] spDeal := by
  obtain ⟨fd, F⟩ := f_deal T
  refine CallD.mk0 (ps := ["_law_script", "_law_base"]) F (fun _ _ _ _ _ _ us hl => match us, hl with | [_, _], _ => rfl) (fnD_of F sc_deal fun cdv A outer s H F0 μ ds Qd Ed hr hl h => ?_)
  obtain ⟨ns, b, rfl, hb0, hb1, hn, k⟩ := h
  have hu := hr.units
  show sds _ _ [some (.rl (ns.map .int)), some (.int b), none, none, none] _ _
  refine sds_cons ?_
  walk_at "pd"
  refine lcd_fm (fun _ => true) (fun d => .int (if intOf d < 0 then -intOf d else intOf d)) ?_
  walk_at "pd"
  obtain ⟨ys, e, h1, -⟩ := cut_ints ns (some b) (some 62)
  rw [e]
  refine ⟨by rw [List.length_map]; omega, trivial, fun d hd => ?_, ?_⟩
  · obtain ⟨z, hz, rfl⟩ := List.mem_map.mp hd
    walk_at "pd"
    refine ⟨rfl, rfl, fun _ => ?_⟩
    walk_at "pd"
    exact ⟨rfl, rfl⟩
  · rw [fm_ints _ _ (fun z => if z < 0 then -z else z) (fun _ => rfl)]
    have hl : ((ys.filter (fun _ => true)).map (fun z : Int => if z < 0 then -z else z)).length ≤ 63 := by
      rw [List.length_map]; exact Nat.le_trans (List.length_filter_le _ _) (by omega)
    have h0 : ∀ z ∈ (ys.filter (fun _ => true)).map (fun z : Int => if z < 0 then -z else z), 0 ≤ z := by
      intro z hz
      obtain ⟨y, -, rfl⟩ := List.mem_map.mp hz
      show 0 ≤ if y < 0 then -y else y; split <;> omega
    generalize (ys.filter (fun _ => true)).map (fun z : Int => if z < 0 then -z else z) = cs at hl h0 ⊢
    walk_at "pd"
    refine sd_for rfl ?_
    walk_at "pd"
    refine ⟨fun i δ' μ' => ∃ x m, δ' = [some (.rl (ns.map .int)), some (.int b), some (.lst (cs.map .int)), x, some (.int m)] ∧ μ' = μ ∧ 0 ≤ m ∧ m < 2147483647, ⟨none, _, rfl, rfl, by omega, by omega⟩, fun _ _ _ _ _ => trivial, ?_, ?_⟩
    · rintro i d δ' μ' hd ⟨x, m, rfl, rfl, m0, m1⟩
      obtain ⟨z, hz, rfl⟩ := List.mem_map.mp (List.mem_of_getElem? hd)
      have z0 := h0 z hz
      walk_at "pd"
      exact ⟨_, _, rfl, rfl, Int.emod_nonneg _ (by decide), Int.emod_lt_of_pos _ (by decide)⟩
    · rintro δ' μ' ⟨x, m, rfl, rfl, m0, m1⟩
      refine sds_cons ?_
      refine sd_ret ?_
      refine ed_lstO ?_
      refine ea_cons ?_
      refine ed_revO ?_
      walk_at "pd"
      refine lcd_fm (fun d => decide (10 ^ 18 ≤ intOf d)) (fun d => d) ?_
      walk_at "pd"
      refine ⟨by rw [List.length_map]; omega, trivial, fun d hd => ?_, ?_⟩
      · obtain ⟨z, hz, rfl⟩ := List.mem_map.mp hd
        walk_at "pd"
        refine ⟨rfl, rfl, fun _ => ?_⟩
        walk_at "pd"
        exact ⟨rfl, rfl⟩
      · rw [fm_ints _ _ (fun z => z) (fun _ => rfl)]
        refine ⟨_, rfl, fun q => ?_⟩
        walk_at "pd"
        refine fun p => k p q _ ⟨(cs.filter (fun z => decide (10 ^ 18 ≤ z))).reverse, m, ⟨m0, m1, fun z hz => h0 z ?_, ?_⟩, ?_⟩
        · exact (List.mem_filter.mp (List.mem_reverse.mp hz)).1
        · rw [List.length_reverse]; exact Nat.le_trans (List.length_filter_le _ _) (by omega)
        · simp [dealM, intOf]; rfl
end
end
section
variable {P : Program} {w : World} {K : PySem.W.Frag} {mg : Str → Option Value} {base : Heap}
/-! ### words of rows -/
def testsOf (k : Str) : List Str := if k = "join" then ["loser points", "loser struck", "winner points", "winner struck"] else ["points", "struck"]
def marksL : List Str := ["bare", "empty", "strike", "wake"]
def deedsOf (k : Str) : List Str := if k = "new" then ["list", "lead", "sign"] else if k = "join" then (["move", "note", "mark", "point", "turn"] : List Str) ++ marksL else (if k = "back" then (["recall", "forget"] : List Str) else ["forget"]) ++ marksL
def spTests : SpD := fun ds μ Q _ => ∃ k, ds = [.str k] ∧ Q (.lst ((testsOf k).map .str)) μ
def spDeeds : SpD := fun ds μ Q _ => ∃ k, ds = [.str k] ∧ Q (.lst ((deedsOf k).map .str)) μ
section
abbrev N_tests_of : List Str := ["_law_kind"]
theorem sc_tests_of : FnScope N_tests_of ["_law_kind"] (defScope stests_of) := ⟨rfl, rfl, rfl, by decide +kernel, rfl, by decide +kernel, by decide +kernel⟩
theorem v_tests_of_kind : Nm N_tests_of (defScope stests_of) 0 "_law_kind" := ⟨rfl, by decide +kernel, by decide +kernel, by decide +kernel⟩
local macro_rules | `(tactic| walk_at "pd.nm") => `(tactic| first
  | ((with_reducible show ed _ (Expr.Name "_law_kind" _) _ _ _); first | refine ed_nm v_tests_of_kind rfl ?_ | refine ed_nmB (sc := defScope stests_of) v_tests_of_kind rfl ?_)
  | fail)
local macro_rules | `(tactic| walk_at "pd.it") => `(tactic| first
  | ((with_reducible show eid _ _ _ _ _ _); refine eid_of ?_)
  | fail)
theorem ok_tests_of (T : T0 w K mg) : CallD P w K mg base 1 (He.ga K "_law_tests_of") 1 [] spTests := by
  obtain ⟨fd, F⟩ := f_tests_of T
  refine CallD.mk0 (ps := ["_law_kind"]) F (fun _ _ _ _ _ _ us hl => match us, hl with | [_], _ => rfl) (fnD_of F sc_tests_of fun cdv A outer s H F0 μ ds Qd Ed hr hl h => ?_)
  obtain ⟨k, rfl, q⟩ := h
  show sds _ _ [some (.str k)] _ _
  unfold testsOf at q
  refine sds_cons ?_
  walk_at "pd"
  refine ifd (fun hk => ?_) (fun hk => ?_)
  · rw [if_pos hk] at q
    walk_at "pd"
    exact q
  · rw [if_neg hk] at q
    walk_at "pd"
    exact q
end
section
abbrev N_deeds_of : List Str := ["_law_kind", "_law_marks"]
theorem sc_deeds_of : FnScope N_deeds_of ["_law_kind"] (defScope sdeeds_of) := ⟨rfl, rfl, rfl, by decide +kernel, rfl, by decide +kernel, by decide +kernel⟩
theorem v_deeds_of_kind : Nm N_deeds_of (defScope sdeeds_of) 0 "_law_kind" := ⟨rfl, by decide +kernel, by decide +kernel, by decide +kernel⟩
theorem v_deeds_of_marks : Nm N_deeds_of (defScope sdeeds_of) 1 "_law_marks" := ⟨rfl, by decide +kernel, by decide +kernel, by decide +kernel⟩
local macro_rules | `(tactic| walk_at "pd.nm") => `(tactic| first
  | ((with_reducible show ed _ (Expr.Name "_law_kind" _) _ _ _); first | refine ed_nm v_deeds_of_kind rfl ?_ | refine ed_nmB (sc := defScope sdeeds_of) v_deeds_of_kind rfl ?_)
  | ((with_reducible show ed _ (Expr.Name "_law_marks" _) _ _ _); first | refine ed_nm v_deeds_of_marks rfl ?_ | refine ed_nmB (sc := defScope sdeeds_of) v_deeds_of_marks rfl ?_)
  | fail)
local macro_rules | `(tactic| walk_at "pd.set") => `(tactic| first
  | ((with_reducible show sd _ (Stmt.Assign [Expr.Name "_law_marks" _] _ _) _ _ _); refine sd_nm v_deeds_of_marks sc_deeds_of.nd ?_)
  | fail)
local macro_rules | `(tactic| walk_at "pd.g") => `(tactic| first
  | ((with_reducible show gd _ (Expr.Name "_law_marks" _) _ _ _ _); refine gd_nm v_deeds_of_marks sc_deeds_of.nd ?_)
  | fail)
local macro_rules | `(tactic| walk_at "pd.it") => `(tactic| first
  | ((with_reducible show eid _ _ _ _ _ _); refine eid_of ?_)
  | fail)
theorem ok_deeds_of (T : T0 w K mg) : CallD P w K mg base 1 (He.ga K "_law_deeds_of") 1 [] spDeeds := by
  obtain ⟨fd, F⟩ := f_deeds_of T
  refine CallD.mk0 (ps := ["_law_kind"]) F (fun _ _ _ _ _ _ us hl => match us, hl with | [_], _ => rfl) (fnD_of F sc_deeds_of fun cdv A outer s H F0 μ ds Qd Ed hr hl h => ?_)
  obtain ⟨k, rfl, q⟩ := h
  show sds _ _ [some (.str k), none] _ _
  unfold deedsOf at q
  refine sds_cons ?_
  walk_at "pd"
  refine ifd (fun hk => ?_) (fun hk => ?_)
  · rw [if_pos hk] at q
    walk_at "pd"
    exact q
  · rw [if_neg hk] at q
    walk_at "pd"
    refine ifd (fun hj => ?_) (fun hj => ?_)
    · rw [if_pos hj] at q
      walk_at "pd"
      exact q
    · rw [if_neg hj] at q
      walk_at "pd"
      refine ifd (fun hb => ?_) (fun hb => ?_)
      · rw [if_pos hb] at q
        walk_at "pd"
        exact q
      · rw [if_neg hb] at q
        walk_at "pd"
        exact q
end
end
section
variable {P : Program} {w : World} {K : PySem.W.Frag} {mg : Str → Option Value} {base : Heap}
/-! ### any row -/
def kindsL : List Str := ["new", "join", "back", "sweep"]
def TestOk (k t : Str) : Prop := t ∈ testsOf k ∨ ∃ t0 ∈ testsOf k, t = "not " ++ t0
structure RowOk (k : Str) (ts ds : List Str) (a : Bool) : Prop where
  kd : k ∈ kindsL
  te : ∀ t ∈ ts, TestOk k t
  de : ∀ d ∈ ds, d ∈ deedsOf k
  an : a = false → ds = []
def rowTup (k : Str) (ts ds : List Str) (a : Bool) : D := .tup [.str k, .lst (ts.map .str), .lst (ds.map .str), .bl a]
def spAnyRow : SpD := fun ds μ Q _ => ∃ p q μr a b, ds = [.ref p, .int a, .int b] ∧ Deal p q μr μ ∧ 0 ≤ a ∧ a ≤ 100 ∧ 0 ≤ b ∧ b ≤ 100 ∧ ∀ k ts ws an μ', RowOk k ts ws an → (ts.length : Int) ≤ a → (ws.length : Int) ≤ b → Deal p q μr μ' → Q (rowTup k ts ws an) μ'
theorem testsOf_len {k t : Str} (h : t ∈ testsOf k) : t.length ≤ 13 := by
  unfold testsOf at h
  split at h
  · have : ∀ t ∈ (["loser points", "loser struck", "winner points", "winner struck"] : List Str), t.length ≤ 13 := by decide
    exact this t h
  · have : ∀ t ∈ (["points", "struck"] : List Str), t.length ≤ 13 := by decide
    exact this t h
theorem testsOf_ne (k : Str) : (testsOf k).map D.str ≠ [] ∧ ((testsOf k).map D.str).length < 1000000 := by
  unfold testsOf; split <;> exact ⟨by simp, by decide⟩
theorem deedsOf_ne (k : Str) : (deedsOf k).map D.str ≠ [] ∧ ((deedsOf k).map D.str).length < 1000000 := by
  unfold deedsOf
  split
  · exact ⟨by simp, by decide⟩
  · split
    · exact ⟨by simp, by decide⟩
    · split <;> exact ⟨by simp, by decide⟩
theorem deedsOf_ok (k : Str) : strsOk (deedsOf k) := by
  have h : ∀ t ∈ (["list", "lead", "sign", "move", "note", "mark", "point", "turn", "bare", "empty", "strike", "wake", "recall", "forget"] : List Str), PyData.strOk t = true := by decide +kernel
  intro t ht
  refine h t ?_
  revert ht
  unfold deedsOf marksL
  split
  · simp; rintro (h | h | h) <;> simp [h]
  · split
    · simp; rintro (h | h | h | h | h | h | h | h | h) <;> simp [h]
    · split
      · simp; rintro (h | h | h | h | h | h) <;> simp [h]
      · simp; rintro (h | h | h | h | h) <;> simp [h]
section
abbrev N_any_row : List Str := ["_law_deal_here", "_law_most_tests", "_law_most_deeds", "_law_kind", "_law_tests", "_law_turn", "_law_test", "_law_deeds"]
theorem sc_any_row : FnScope N_any_row ["_law_deal_here", "_law_most_tests", "_law_most_deeds"] (defScope sany_row) := ⟨rfl, rfl, rfl, by decide +kernel, rfl, by decide +kernel, by decide +kernel⟩
theorem v_any_row_deal_here : Nm N_any_row (defScope sany_row) 0 "_law_deal_here" := ⟨rfl, by decide +kernel, by decide +kernel, by decide +kernel⟩
theorem v_any_row_most_tests : Nm N_any_row (defScope sany_row) 1 "_law_most_tests" := ⟨rfl, by decide +kernel, by decide +kernel, by decide +kernel⟩
theorem v_any_row_most_deeds : Nm N_any_row (defScope sany_row) 2 "_law_most_deeds" := ⟨rfl, by decide +kernel, by decide +kernel, by decide +kernel⟩
theorem v_any_row_kind : Nm N_any_row (defScope sany_row) 3 "_law_kind" := ⟨rfl, by decide +kernel, by decide +kernel, by decide +kernel⟩
theorem v_any_row_tests : Nm N_any_row (defScope sany_row) 4 "_law_tests" := ⟨rfl, by decide +kernel, by decide +kernel, by decide +kernel⟩
theorem w_any_row_turn : NmB N_any_row 5 "_law_turn" := ⟨rfl, by decide +kernel, by decide +kernel⟩
theorem w_any_row_test : NmB N_any_row 6 "_law_test" := ⟨rfl, by decide +kernel, by decide +kernel⟩
theorem v_any_row_deeds : Nm N_any_row (defScope sany_row) 7 "_law_deeds" := ⟨rfl, by decide +kernel, by decide +kernel, by decide +kernel⟩
theorem gl_any_row_draw : (defScope sany_row).names.lookup ("_law_draw" : Str) = some .globalImplicit := by decide +kernel
theorem gl_any_row_pick : (defScope sany_row).names.lookup ("_law_pick" : Str) = some .globalImplicit := by decide +kernel
theorem gl_any_row_range : (defScope sany_row).names.lookup ("range" : Str) = some .globalImplicit := by decide +kernel
-- _law_kind is a cell
theorem sl_any_row_tests : (defScope sany_row).names.lookup ("_law_tests" : Str) = some .local := by decide +kernel
theorem sl_any_row_deeds : (defScope sany_row).names.lookup ("_law_deeds" : Str) = some .local := by decide +kernel
local macro_rules | `(tactic| walk_at "pd.nm") => `(tactic| first
  | ((with_reducible show ed _ (Expr.Name "_law_deal_here" _) _ _ _); first | refine ed_nm v_any_row_deal_here rfl ?_ | refine ed_nmB (sc := defScope sany_row) v_any_row_deal_here rfl ?_)
  | ((with_reducible show ed _ (Expr.Name "_law_most_tests" _) _ _ _); first | refine ed_nm v_any_row_most_tests rfl ?_ | refine ed_nmB (sc := defScope sany_row) v_any_row_most_tests rfl ?_)
  | ((with_reducible show ed _ (Expr.Name "_law_most_deeds" _) _ _ _); first | refine ed_nm v_any_row_most_deeds rfl ?_ | refine ed_nmB (sc := defScope sany_row) v_any_row_most_deeds rfl ?_)
  | ((with_reducible show ed _ (Expr.Name "_law_kind" _) _ _ _); first | refine ed_nm v_any_row_kind rfl ?_ | refine ed_nmB (sc := defScope sany_row) v_any_row_kind rfl ?_)
  | ((with_reducible show ed _ (Expr.Name "_law_tests" _) _ _ _); first | refine ed_nm v_any_row_tests rfl ?_ | refine ed_nmB (sc := defScope sany_row) v_any_row_tests rfl ?_)
  | ((with_reducible show ed _ (Expr.Name "_law_turn" _) _ _ _); refine ed_nmC (sc := defScope sany_row) w_any_row_turn rfl ?_)
  | ((with_reducible show ed _ (Expr.Name "_law_test" _) _ _ _); refine ed_nmC (sc := defScope sany_row) w_any_row_test rfl ?_)
  | ((with_reducible show ed _ (Expr.Name "_law_deeds" _) _ _ _); first | refine ed_nm v_any_row_deeds rfl ?_ | refine ed_nmB (sc := defScope sany_row) v_any_row_deeds rfl ?_)
  | ((with_reducible show ed _ (Expr.Name "range" _) _ _ _); refine ed_ty (n := "range") (b_range (by assumption)) bb_range ?_ (hg := by first | exact gl_of gl_any_row_range | exact glB_of (sc := defScope sany_row)))
  | fail)
local macro_rules | `(tactic| walk_at "pd.set") => `(tactic| first
  | ((with_reducible show sd _ (Stmt.Assign [Expr.Name "_law_tests" _] (Expr.ListComp _ _ _ _) _) _ _ _); refine sd_setLc (own := [("_law_turn", 5)]) (i := 4) rfl sc_any_row.nd rfl (by exact sl_any_row_tests) (sw_true rfl (by exact sl_any_row_tests) rfl (by decide +kernel)) (blkOk_by (N := N_any_row) (sc := defScope sany_row) (by decide +kernel)) ?_)
  | ((with_reducible show sd _ (Stmt.Assign [Expr.Name "_law_tests" _] (Expr.ListComp _ _ _ _) _) _ _ _); refine sd_setLc (own := [("_law_test", 6)]) (i := 4) rfl sc_any_row.nd rfl (by exact sl_any_row_tests) (sw_true rfl (by exact sl_any_row_tests) rfl (by decide +kernel)) (blkOk_by (N := N_any_row) (sc := defScope sany_row) (by decide +kernel)) ?_)
  | ((with_reducible show sd _ (Stmt.Assign [Expr.Name "_law_deeds" _] (Expr.ListComp _ _ _ _) _) _ _ _); refine sd_setLc (own := [("_law_turn", 5)]) (i := 7) rfl sc_any_row.nd rfl (by exact sl_any_row_deeds) (sw_true rfl (by exact sl_any_row_deeds) rfl (by decide +kernel)) (blkOk_by (N := N_any_row) (sc := defScope sany_row) (by decide +kernel)) ?_)
  | ((with_reducible show sd _ (Stmt.Assign [Expr.Name "_law_deeds" _] (Expr.ListComp _ _ _ _) _) _ _ _); refine sd_setLc (own := [("_law_test", 6)]) (i := 7) rfl sc_any_row.nd rfl (by exact sl_any_row_deeds) (sw_true rfl (by exact sl_any_row_deeds) rfl (by decide +kernel)) (blkOk_by (N := N_any_row) (sc := defScope sany_row) (by decide +kernel)) ?_)
  | ((with_reducible show sd _ (Stmt.Assign [Expr.Name "_law_kind" _] _ _) _ _ _); refine sd_nm v_any_row_kind sc_any_row.nd ?_)
  | ((with_reducible show sd _ (Stmt.Assign [Expr.Name "_law_tests" _] _ _) _ _ _); refine sd_nm v_any_row_tests sc_any_row.nd ?_)
  | ((with_reducible show sd _ (Stmt.Assign [Expr.Name "_law_deeds" _] _ _) _ _ _); refine sd_nm v_any_row_deeds sc_any_row.nd ?_)
  | fail)
local macro_rules | `(tactic| walk_at "pd.g") => `(tactic| first
  | ((with_reducible show gd _ (Expr.Name "_law_kind" _) _ _ _ _); refine gd_nm v_any_row_kind sc_any_row.nd ?_)
  | ((with_reducible show gd _ (Expr.Name "_law_tests" _) _ _ _ _); refine gd_nm v_any_row_tests sc_any_row.nd ?_)
  | ((with_reducible show gv _ (Expr.Name "_law_turn" _) _ _ _ _ _); refine gv_nmC (sc := defScope sany_row) w_any_row_turn sc_any_row.nd (by decide) ?_)
  | ((with_reducible show gv _ (Expr.Name "_law_test" _) _ _ _ _ _); refine gv_nmC (sc := defScope sany_row) w_any_row_test sc_any_row.nd (by decide) ?_)
  | ((with_reducible show gd _ (Expr.Name "_law_deeds" _) _ _ _ _); refine gd_nm v_any_row_deeds sc_any_row.nd ?_)
  | fail)
local macro_rules | `(tactic| walk_at "pd.call") => `(tactic| first
  | ((with_reducible show ed _ (Expr.Call (Expr.Name "_law_pick" _) (_ :: _) _ _) _ _ _); refine ed_callC ((ok_pick (by assumption)).at_ _) (by assumption) (by decide) (g_pick (by assumption)) ?_ (hg := by first | exact gl_of gl_any_row_pick | exact glB_of (sc := defScope sany_row)))
  | ((with_reducible show ed _ (Expr.Call (Expr.Name "_law_tests_of" _) (_ :: _) _ _) _ _ _); refine ed_callC ((ok_tests_of (by assumption)).at_ _) (by assumption) (by decide) (g_tests_of (by assumption)) ?_ (hg := by first | exact glB_of (sc := defScope sany_row)))
  | ((with_reducible show ed _ (Expr.Call (Expr.Name "_law_deeds_of" _) (_ :: _) _ _) _ _ _); refine ed_callC ((ok_deeds_of (by assumption)).at_ _) (by assumption) (by decide) (g_deeds_of (by assumption)) ?_ (hg := by first | exact glB_of (sc := defScope sany_row)))
  | ((with_reducible show ed _ (Expr.Call (Expr.Name "_law_draw" _) (_ :: _) _ _) _ _ _); refine ed_callC ((ok_draw (by assumption)).at_ _) (by assumption) (by decide) (g_draw (by assumption)) ?_ (hg := by first | exact gl_of gl_any_row_draw | exact glB_of (sc := defScope sany_row)))
  | fail)
local macro_rules | `(tactic| walk_at "pd.lc") => `(tactic| first
  | ((with_reducible show ed _ (Expr.ListComp _ [_] _ _) _ _ _); refine ed_lc (own := [("_law_turn", 5)]) [("_law_turn", 5)] rfl rfl sc_any_row.nd (blkOk_by (N := N_any_row) (sc := defScope sany_row) (by decide +kernel)) ?_)
  | ((with_reducible show ed _ (Expr.ListComp _ [_] _ _) _ _ _); refine ed_lc (own := [("_law_test", 6)]) [("_law_test", 6)] rfl rfl sc_any_row.nd (blkOk_by (N := N_any_row) (sc := defScope sany_row) (by decide +kernel)) ?_)
  | fail)
local macro_rules | `(tactic| walk_at "pd.it") => `(tactic| first
  | ((with_reducible show eid _ _ (Expr.Call (Expr.Name "range" _) [_] _ _) _ _ _); refine eid_range (b_range (by assumption)) ?_ (hg := by first | exact gl_of gl_any_row_range | exact glB_of (sc := defScope sany_row)))
  | ((with_reducible show eid _ _ (Expr.Call (Expr.Name "range" _) [_, _] _ _) _ _ _); refine eid_range2 (b_range (by assumption)) ?_ (hg := by first | exact gl_of gl_any_row_range | exact glB_of (sc := defScope sany_row)))
  | ((with_reducible show eid _ _ _ _ _ _); refine eid_of ?_)
  | fail)
theorem ok_any_row (T : T0 w K mg) : CallD P w K mg base 3 (He.ga K "_law_any_row") 3 [] spAnyRow := by
  obtain ⟨fd, F⟩ := f_any_row T
  refine CallD.mk0 (ps := ["_law_deal_here", "_law_most_tests", "_law_most_deeds"]) F (fun _ _ _ _ _ _ us hl => match us, hl with | [_, _, _], _ => rfl) (fnD_of F sc_any_row fun cdv A outer s H F0 μ ds Qd Ed hr hl h => ?_)
  obtain ⟨p, q, μr, a, b, rfl, hD, a0, a1, b0, b1, k⟩ := h
  have hu := hr.units
  show sds _ _ [some (.ref p), some (.int a), some (.int b), none, none, none, none, none] _ _
  refine sds_cons ?_
  walk_at "pd"
  refine ⟨p, q, μr, _, _, rfl, Or.inl rfl, hD, by decide, by decide, fun d hd μ1 hD1 => ?_⟩
  obtain ⟨kd, hk, rfl⟩ := List.mem_map.mp (show d ∈ (["new", "join", "join", "back", "sweep"] : List Str).map D.str from hd)
  walk_at "pd"
  have hkd : kd ∈ kindsL := by
    revert hk; unfold kindsL; simp only [List.mem_cons, List.mem_nil_iff, or_false]
    rintro (h | h | h | h | h) <;> simp [h]
  refine lcd_all (Deal p q μr) (fun r => ∃ t, r = .str t ∧ t ∈ testsOf kd) ?_
  walk_at "pd"
  refine ⟨p, q, μr, _, rfl, hD1, by omega, by omega, fun r μ2 r0 r1 hD2 => ?_⟩
  walk_at "pd"
  refine ⟨r, rfl, by omega, by omega, by rw [List.length_map, List.length_range]; omega, hD2, fun _ _ => trivial, fun d hd μ3 hD3 => ?_, fun acc μ3 hacc hlen hD3 => ?_⟩
  · walk_at "pd"
    refine ⟨kd, rfl, ?_⟩
    walk_at "pd"
    refine ⟨p, q, μr, _, _, rfl, Or.inl rfl, hD3, (testsOf_ne kd).1, (testsOf_ne kd).2, fun d' hd' μ4 hD4 => ⟨?_, hD4⟩⟩
    obtain ⟨t, ht, rfl⟩ := List.mem_map.mp hd'
    exact ⟨t, rfl, ht⟩
  · rw [List.length_map, List.length_range] at hlen
    obtain ⟨ts, rfl, hts, hl2⟩ := strs_of hacc
    rw [List.length_map] at hlen
    walk_at "pd"
    refine lcd_all (Deal p q μr) (fun r => ∃ t, r = .str t ∧ TestOk kd t) ?_
    walk_at "pd"
    refine ⟨by rw [List.length_map]; omega, hD3, fun _ _ => trivial, fun d hd μ4 hD4 => ?_, fun acc μ4 hacc2 hlen2 hD4 => ?_⟩
    · obtain ⟨t, ht, rfl⟩ := List.mem_map.mp hd
      have htl := testsOf_len (hts t ht)
      walk_at "pd"
      refine ⟨p, q, μr, _, rfl, hD4, by omega, by omega, fun r2 μ5 r3 r4 hD5 => ?_⟩
      walk_at "pd"
      refine ifd (fun _ => ?_) (fun _ => ?_)
      · walk_at "pd"
        have e4 : (Str.ofString "not ").length = 4 := by decide
        refine opd_addS (by rw [e4]; exact small_le (by omega)) ?_
        exact ⟨⟨_, rfl, Or.inr ⟨t, hts t ht, rfl⟩⟩, hD5⟩
      · walk_at "pd"
        exact ⟨⟨t, rfl, Or.inl (hts t ht)⟩, hD5⟩
    · obtain ⟨us, rfl, hus, hl3⟩ := strs_of hacc2
      rw [List.length_map, List.length_map] at hlen2
      walk_at "pd"
      refine lcd_all (Deal p q μr) (fun r => ∃ t, r = .str t ∧ t ∈ deedsOf kd) ?_
      walk_at "pd"
      refine ⟨p, q, μr, _, rfl, hD4, by omega, by omega, fun r μ5 r0 r1 hD5 => ?_⟩
      walk_at "pd"
      refine ⟨r, rfl, by omega, by omega, by rw [List.length_map, List.length_range]; omega, hD5, fun _ _ => trivial, fun d hd μ6 hD6 => ?_, fun acc μ6 hacc hlen6 hD6 => ?_⟩
      · walk_at "pd"
        refine ⟨kd, rfl, ?_⟩
        walk_at "pd"
        refine ⟨p, q, μr, _, _, rfl, Or.inl rfl, hD6, (deedsOf_ne kd).1, (deedsOf_ne kd).2, fun d' hd' μ7 hD7 => ⟨?_, hD7⟩⟩
        obtain ⟨t, ht, rfl⟩ := List.mem_map.mp hd'
        exact ⟨t, rfl, ht⟩
      · rw [List.length_map, List.length_range] at hlen6
        obtain ⟨ws, rfl, hws, hl4⟩ := strs_of hacc
        rw [List.length_map] at hlen6
        walk_at "pd"
        have hwo : strsOk ws := fun t ht => deedsOf_ok kd t (hws t ht)
        refine opd_neV hu (.same _) (.same (D.lst [])) (ok_strs hwo) (by rfl) (depth_strs _) (by decide) ?_
        rw [eqD_nil]
        cases ws with
        | nil =>
          rw [List.map_nil]
          walk_at "pd"
          refine ⟨p, q, μr, _, rfl, hD6, by omega, by omega, fun r2 μ7 r3 r4 hD7 => ?_⟩
          walk_at "pd"
          exact k kd us [] _ _ ⟨hkd, hus, fun _ z => (List.not_mem_nil z).elim, fun _ => rfl⟩ (by omega) (by show (0 : Int) ≤ _; omega) hD7
        | cons w0 ws =>
          rw [List.map_cons]
          walk_at "pd"
          exact k kd us (w0 :: ws) true _ ⟨hkd, hus, hws, fun z => nomatch z⟩ (by omega) (by rw [List.length_cons] at hlen6 ⊢; omega) hD6
end
end
section
variable {P : Program} {w : World} {K : PySem.W.Frag} {mg : Str → Option Value} {base : Heap}
/-! ### tests and deeds of any value -/
def spSeqG (K : PySem.W.Frag) : SpD := fun ds μ Q _ => (∃ x, ds = [x] ∧ (tyN x).isSome = true ∧ Q (.bl (isSeqD x)) μ) ∨ (∃ x xs, ds = [x] ∧ SeqD μ x xs ∧ Q (.bl true) μ) ∨ ∃ x t, ds = [x] ∧ TyQ K μ x t ∧ PySem.W.kitAny K t [.type "list", .type "tuple"] = some false ∧ Q (.bl false) μ
section
abbrev N_is_sequence : List Str := ["thing"]
theorem sc_is_sequence : FnScope N_is_sequence ["thing"] (defScope sis_sequence) := ⟨rfl, rfl, rfl, by decide +kernel, rfl, by decide +kernel, by decide +kernel⟩
theorem v_is_sequence_thing : Nm N_is_sequence (defScope sis_sequence) 0 "thing" := ⟨rfl, by decide +kernel, by decide +kernel, by decide +kernel⟩
theorem gl_is_sequence_isinstance : (defScope sis_sequence).names.lookup ("isinstance" : Str) = some .globalImplicit := by decide +kernel
theorem gl_is_sequence_list : (defScope sis_sequence).names.lookup ("list" : Str) = some .globalImplicit := by decide +kernel
theorem gl_is_sequence_tuple : (defScope sis_sequence).names.lookup ("tuple" : Str) = some .globalImplicit := by decide +kernel
local macro_rules | `(tactic| walk_at "pd.nm") => `(tactic| first
  | ((with_reducible show ed _ (Expr.Name "thing" _) _ _ _); first | refine ed_nm v_is_sequence_thing rfl ?_ | refine ed_nmB (sc := defScope sis_sequence) v_is_sequence_thing rfl ?_)
  | ((with_reducible show ed _ (Expr.Name "list" _) _ _ _); refine ed_ty (n := "list") (b_list (by assumption)) bb_list ?_ (hg := by first | exact gl_of gl_is_sequence_list))
  | ((with_reducible show ed _ (Expr.Name "tuple" _) _ _ _); refine ed_ty (n := "tuple") (b_tuple (by assumption)) bb_tuple ?_ (hg := by first | exact gl_of gl_is_sequence_tuple))
  | fail)
local macro_rules | `(tactic| walk_at "pd.call") => `(tactic| first
  | ((with_reducible show ed _ (Expr.Call (Expr.Name "isinstance" _) (_ :: _) _ _) _ _ _); refine ed_callB (id := "isinstance") (b_isinstance (by assumption)) bb_isinstance ?_ (hg := by first | exact gl_of gl_is_sequence_isinstance))
  | fail)
local macro_rules | `(tactic| walk_at "pd.it") => `(tactic| first
  | ((with_reducible show eid _ _ _ _ _ _); refine eid_of ?_)
  | fail)
theorem ok_is_sequence (T : T0 w K mg) : CallD P w K mg base 1 (He.ga K "is_sequence") 1 [] (spSeqG K) := by
  obtain ⟨fd, F⟩ := f_is_sequence T
  refine CallD.mk0 (ps := ["thing"]) F (fun _ _ _ _ _ _ us hl => match us, hl with | [_], _ => rfl) (fnD_of F sc_is_sequence fun cdv A outer s H F0 μ ds Qd Ed hr hl h => ?_)
  rcases h with ⟨x, rfl, hx, q⟩ | ⟨x, xs, rfl, hx, q⟩ | ⟨x, t, rfl, hx, hk, q⟩
  · show sds _ _ [some x] _ _
    refine sds_cons ?_
    walk_at "pd"
    exact cld_isSeq hx q
  · show sds _ _ [some x] _ _
    refine sds_cons ?_
    walk_at "pd"
    exact cld_isiSeq hx q
  · show sds _ _ [some x] _ _
    refine sds_cons ?_
    walk_at "pd"
    exact cld_isiT hx (us := [.type "list", .type "tuple"]) rfl hk q
end
def isTestB (k t : Str) : Bool := decide ((if Txt.startswith t "not " = true then cutS t (some 4) none else t) ∈ testsOf k)
def isDeedB (k t : Str) : Bool := decide (t ∈ deedsOf k)
def isTestD (k : Str) : D → Bool | .str t => isTestB k t | _ => false
def isDeedD (k : Str) : D → Bool | .str t => isDeedB k t | _ => false
/-- a thing that may be asked: plain, no text too long -/
def AskD (x : D) : Prop := (tyN x).isSome = true ∧ ∀ z, x = .str z → z.length ≤ 100000
def spTestG : SpD := fun ds μ Q _ => ∃ x k, ds = [x, .str k] ∧ AskD x ∧ Q (.bl (isTestD k x)) μ
def spDeedG : SpD := fun ds μ Q _ => ∃ x k, ds = [x, .str k] ∧ AskD x ∧ k ∈ kindsL ∧ Q (.bl (isDeedD k x)) μ
section
abbrev N_is_test : List Str := ["thing", "kind", "text"]
theorem sc_is_test : FnScope N_is_test ["thing", "kind"] (defScope sis_test) := ⟨rfl, rfl, rfl, by decide +kernel, rfl, by decide +kernel, by decide +kernel⟩
theorem v_is_test_thing : Nm N_is_test (defScope sis_test) 0 "thing" := ⟨rfl, by decide +kernel, by decide +kernel, by decide +kernel⟩
theorem v_is_test_kind : Nm N_is_test (defScope sis_test) 1 "kind" := ⟨rfl, by decide +kernel, by decide +kernel, by decide +kernel⟩
theorem v_is_test_text : Nm N_is_test (defScope sis_test) 2 "text" := ⟨rfl, by decide +kernel, by decide +kernel, by decide +kernel⟩
theorem gl_is_test_OF_JOINS : (defScope sis_test).names.lookup ("OF_JOINS" : Str) = some .globalImplicit := by decide +kernel
theorem gl_is_test_OF_NAMED : (defScope sis_test).names.lookup ("OF_NAMED" : Str) = some .globalImplicit := by decide +kernel
theorem gl_is_test_isinstance : (defScope sis_test).names.lookup ("isinstance" : Str) = some .globalImplicit := by decide +kernel
theorem gl_is_test_str : (defScope sis_test).names.lookup ("str" : Str) = some .globalImplicit := by decide +kernel
local macro_rules | `(tactic| walk_at "pd.nm") => `(tactic| first
  | ((with_reducible show ed _ (Expr.Name "thing" _) _ _ _); first | refine ed_nm v_is_test_thing rfl ?_ | refine ed_nmB (sc := defScope sis_test) v_is_test_thing rfl ?_)
  | ((with_reducible show ed _ (Expr.Name "kind" _) _ _ _); first | refine ed_nm v_is_test_kind rfl ?_ | refine ed_nmB (sc := defScope sis_test) v_is_test_kind rfl ?_)
  | ((with_reducible show ed _ (Expr.Name "text" _) _ _ _); first | refine ed_nm v_is_test_text rfl ?_ | refine ed_nmB (sc := defScope sis_test) v_is_test_text rfl ?_)
  | ((with_reducible show ed _ (Expr.Name "OF_JOINS" _) _ _ _); refine ed_gtup (ys := cst_OF_JOINS) (g_OF_JOINS (by assumption)) (t_OF_JOINS (by assumption)) ?_ (hg := by first | exact gl_of gl_is_test_OF_JOINS))
  | ((with_reducible show ed _ (Expr.Name "OF_NAMED" _) _ _ _); refine ed_gtup (ys := cst_OF_NAMED) (g_OF_NAMED (by assumption)) (t_OF_NAMED (by assumption)) ?_ (hg := by first | exact gl_of gl_is_test_OF_NAMED))
  | ((with_reducible show ed _ (Expr.Name "str" _) _ _ _); refine ed_ty (n := "str") (b_str (by assumption)) bb_str ?_ (hg := by first | exact gl_of gl_is_test_str))
  | fail)
local macro_rules | `(tactic| walk_at "pd.set") => `(tactic| first
  | ((with_reducible show sd _ (Stmt.Assign [Expr.Name "text" _] _ _) _ _ _); refine sd_nm v_is_test_text sc_is_test.nd ?_)
  | fail)
local macro_rules | `(tactic| walk_at "pd.g") => `(tactic| first
  | ((with_reducible show gd _ (Expr.Name "text" _) _ _ _ _); refine gd_nm v_is_test_text sc_is_test.nd ?_)
  | fail)
local macro_rules | `(tactic| walk_at "pd.call") => `(tactic| first
  | ((with_reducible show ed _ (Expr.Call (Expr.Name "isinstance" _) (_ :: _) _ _) _ _ _); refine ed_callB (id := "isinstance") (b_isinstance (by assumption)) bb_isinstance ?_ (hg := by first | exact gl_of gl_is_test_isinstance))
  | ((with_reducible show ed _ (Expr.Call (Expr.Attribute _ "startswith" _) (_ :: _) _ _) _ _ _); with_reducible refine ed_bm PySem.F.plainAttrs_str PySem.F.slot_str_startswith PySem.F.type_str_startswith ?_)
  | fail)
local macro_rules | `(tactic| walk_at "pd.it") => `(tactic| first
  | ((with_reducible show eid _ _ _ _ _ _); refine eid_of ?_)
  | fail)
theorem ok_is_test (T : T0 w K mg) : CallD P w K mg base 1 (He.ga K "is_test") 2 [] spTestG := by
  obtain ⟨fd, F⟩ := f_is_test T
  refine CallD.mk0 (ps := ["thing", "kind"]) F (fun _ _ _ _ _ _ us hl => match us, hl with | [_, _], _ => rfl) (fnD_of F sc_is_test fun cdv A outer s H F0 μ ds Qd Ed hr hl h => ?_)
  obtain ⟨x, k, rfl, ⟨hx, ht⟩, q⟩ := h
  show sds _ _ [some x, some (.str k), none] _ _
  refine sds_cons ?_
  cases x with
  | str t =>
    have hts : t.length ≤ sizeLine := small_le (ht t rfl)
    change Qd (.bl (isTestB k t)) μ at q
    walk_at "pd"
    unfold isTestB testsOf at q
    refine ifb (fun h1 => ?_) (fun h1 => ?_)
    · rw [if_pos h1] at q
      walk_at "pd"
      refine ifd (fun hk => ?_) (fun hk => ?_)
      · rw [if_pos hk] at q
        walk_at "pd"
        exact q
      · rw [if_neg hk] at q
        walk_at "pd"
        exact q
    · simp only [h1, Bool.false_eq_true, if_false] at q
      walk_at "pd"
      refine ifd (fun hk => ?_) (fun hk => ?_)
      · rw [if_pos hk] at q
        walk_at "pd"
        exact q
      · rw [if_neg hk] at q
        walk_at "pd"
        exact q
  | _ =>
    first
    | (exfalso; revert hx; simp [tyN]; done)
    | (walk_at "pd"; first | exact q | (refine cld_isStr rfl ?_; walk_at "pd"; first | exact q | (refine iteT ?_; walk_at "pd"; exact q) | (refine iteF ?_; walk_at "pd"; exact q)))
end
section
abbrev N_is_deed : List Str := ["thing", "kind"]
theorem sc_is_deed : FnScope N_is_deed ["thing", "kind"] (defScope sis_deed) := ⟨rfl, rfl, rfl, by decide +kernel, rfl, by decide +kernel, by decide +kernel⟩
theorem v_is_deed_thing : Nm N_is_deed (defScope sis_deed) 0 "thing" := ⟨rfl, by decide +kernel, by decide +kernel, by decide +kernel⟩
theorem v_is_deed_kind : Nm N_is_deed (defScope sis_deed) 1 "kind" := ⟨rfl, by decide +kernel, by decide +kernel, by decide +kernel⟩
theorem gl_is_deed_DEEDS : (defScope sis_deed).names.lookup ("DEEDS" : Str) = some .globalImplicit := by decide +kernel
theorem gl_is_deed_isinstance : (defScope sis_deed).names.lookup ("isinstance" : Str) = some .globalImplicit := by decide +kernel
theorem gl_is_deed_str : (defScope sis_deed).names.lookup ("str" : Str) = some .globalImplicit := by decide +kernel
local macro_rules | `(tactic| walk_at "pd.nm") => `(tactic| first
  | ((with_reducible show ed _ (Expr.Name "thing" _) _ _ _); first | refine ed_nm v_is_deed_thing rfl ?_ | refine ed_nmB (sc := defScope sis_deed) v_is_deed_thing rfl ?_)
  | ((with_reducible show ed _ (Expr.Name "kind" _) _ _ _); first | refine ed_nm v_is_deed_kind rfl ?_ | refine ed_nmB (sc := defScope sis_deed) v_is_deed_kind rfl ?_)
  | ((with_reducible show ed _ (Expr.Name "DEEDS" _) _ _ _); refine ed_gref (g_DEEDS (by assumption)) ?_ (hg := by first | exact gl_of gl_is_deed_DEEDS))
  | ((with_reducible show ed _ (Expr.Name "str" _) _ _ _); refine ed_ty (n := "str") (b_str (by assumption)) bb_str ?_ (hg := by first | exact gl_of gl_is_deed_str))
  | fail)
local macro_rules | `(tactic| walk_at "pd.call") => `(tactic| first
  | ((with_reducible show ed _ (Expr.Call (Expr.Name "isinstance" _) (_ :: _) _ _) _ _ _); refine ed_callB (id := "isinstance") (b_isinstance (by assumption)) bb_isinstance ?_ (hg := by first | exact gl_of gl_is_deed_isinstance))
  | fail)
local macro_rules | `(tactic| walk_at "pd.it") => `(tactic| first
  | ((with_reducible show eid _ _ _ _ _ _); refine eid_of ?_)
  | fail)
theorem ok_is_deed (T : T0 w K mg) : CallD P w K mg base 1 (He.ga K "is_deed") 2 [] spDeedG := by
  obtain ⟨fd, F⟩ := f_is_deed T
  refine CallD.mk0 (ps := ["thing", "kind"]) F (fun _ _ _ _ _ _ us hl => match us, hl with | [_, _], _ => rfl) (fnD_of F sc_is_deed fun cdv A outer s H F0 μ ds Qd Ed hr hl h => ?_)
  obtain ⟨x, k, rfl, ⟨hx, -⟩, ht, q⟩ := h
  show sds _ _ [some x, some (.str k)] _ _
  refine sds_cons ?_
  cases x with
  | str t =>
    change Qd (.bl (isDeedB k t)) μ at q
    walk_at "pd"
    refine ixd_kdT (deedsOf k) (k_DEEDS T) (t_DEEDS T) ?_ ?_
    · revert ht; unfold kindsL; simp only [List.mem_cons, List.mem_nil_iff, or_false]
      rintro (rfl | rfl | rfl | rfl) <;> decide +kernel
    · walk_at "pd"
      exact q
  | _ =>
    first
    | (exfalso; revert hx; simp [tyN]; done)
    | (walk_at "pd"; first | exact q | (refine cld_isStr rfl ?_; walk_at "pd"; first | exact q | (refine iteT ?_; walk_at "pd"; exact q) | (refine iteF ?_; walk_at "pd"; exact q)))
end
end
section
variable {P : Program} {w : World} {K : PySem.W.Frag} {mg : Str → Option Value} {base : Heap}
/-! ### rows made or refused -/
def seqIt : D → Option (List D) | .lst xs => some xs | .tup xs => some xs | _ => none
def badT (k : Str) (x : D) : Bool := match seqIt x with | some ts => !ts.all (isTestD k) | none => true
def badD (k : Str) (x : D) : Bool := match seqIt x with | some ts => !ts.all (isDeedD k) | none => true
def badA (an x : D) : Bool := match an, seqIt x with | .bl a, some ws => !a && decide (0 < ws.length) | _, _ => true
def badK : D → Bool | .str k => !decide (k ∈ kindsL) | _ => true
def rowBad (kd te de an : D) : Option Str :=
  if badK kd then some "kind" else if badT (strOf kd) te then some "tests" else if badD (strOf kd) de then some "deeds" else if badA an de then some "answer" else none
/-- a plain thing whose items, if it is a list or a tuple, may be asked -/
structure SeqAsk (x : D) : Prop where
  ty : (tyN x).isSome = true
  norl : ∀ xs, x ≠ .rl xs
  it : ∀ xs, seqIt x = some xs → xs.length ≤ 1000 ∧ ∀ y ∈ xs, AskD y
theorem seqD_of {μ : Mu} {x : D} {xs : List D} (h : seqIt x = some xs) : SeqD μ x xs := by
  cases x <;> cases h
  · exact .lst _
  · exact .tup _
theorem isSeqD_some {x : D} {xs : List D} (h : seqIt x = some xs) : isSeqD x = true := by cases x <;> cases h <;> rfl
theorem isSeqD_none {x : D} (h : seqIt x = none) (hn : ∀ xs, x ≠ .rl xs) : isSeqD x = false := by
  cases x with
  | lst => cases h
  | tup => cases h
  | rl xs => exact absurd rfl (hn xs)
  | _ => rfl
def spRowG (K : PySem.W.Frag) : SpD := fun ds μ Q E => ∃ p dx μr kd te de an, ds = [.ref p, kd, te, de, an] ∧ μ = (p, .ins (He.ga K "Row") dx [] []) :: μr ∧ AskD kd ∧ SeqAsk te ∧ SeqAsk de ∧ (tyN an).isSome = true ∧
  (∀ w, rowBad kd te de an = some w → E (.ref (He.ga K "InvalidRow")) ["word"] [.str w] μ) ∧
  (∀ k ts ws a, kd = .str k → seqIt te = some ts → seqIt de = some ws → an = .bl a → rowBad kd te de an = none → Q .non ((p, .ins (He.ga K "Row") dx ["kind", "tests", "deeds", "answer"] [.str k, .tup ts, .tup ws, .bl a]) :: μr))
theorem all_map {α : Type} {f : α → Bool} {l : List α} : (l.map f).all id = l.all f := by
  induction l with
  | nil => rfl
  | cons a l ih => rw [List.map_cons, List.all_cons, List.all_cons, ih]; rfl
theorem fm_bl {g : D → D} {f : D → Bool} (h : ∀ y, g y = .bl (f y)) : ∀ ys : List D, (ys.filter (fun _ => true)).map g = (ys.map f).map .bl := fun ys => by
  rw [List.filter_eq_self.mpr fun _ _ => rfl, List.map_map]
  exact List.map_congr_left fun y _ => h y
section
abbrev N_Row_init : List Str := ["self", "kind", "tests", "deeds", "answer", "test", "deed"]
theorem sc_Row_init : FnScope N_Row_init ["self", "kind", "tests", "deeds", "answer"] (defScope sRow_init) := ⟨rfl, rfl, rfl, by decide +kernel, rfl, by decide +kernel, by decide +kernel⟩
theorem v_Row_init_self : Nm N_Row_init (defScope sRow_init) 0 "self" := ⟨rfl, by decide +kernel, by decide +kernel, by decide +kernel⟩
theorem v_Row_init_kind : Nm N_Row_init (defScope sRow_init) 1 "kind" := ⟨rfl, by decide +kernel, by decide +kernel, by decide +kernel⟩
theorem v_Row_init_tests : Nm N_Row_init (defScope sRow_init) 2 "tests" := ⟨rfl, by decide +kernel, by decide +kernel, by decide +kernel⟩
theorem v_Row_init_deeds : Nm N_Row_init (defScope sRow_init) 3 "deeds" := ⟨rfl, by decide +kernel, by decide +kernel, by decide +kernel⟩
theorem v_Row_init_answer : Nm N_Row_init (defScope sRow_init) 4 "answer" := ⟨rfl, by decide +kernel, by decide +kernel, by decide +kernel⟩
theorem w_Row_init_test : NmB N_Row_init 5 "test" := ⟨rfl, by decide +kernel, by decide +kernel⟩
theorem w_Row_init_deed : NmB N_Row_init 6 "deed" := ⟨rfl, by decide +kernel, by decide +kernel⟩
theorem gl_Row_init_InvalidRow : (defScope sRow_init).names.lookup ("InvalidRow" : Str) = some .globalImplicit := by decide +kernel
theorem gl_Row_init_KINDS : (defScope sRow_init).names.lookup ("KINDS" : Str) = some .globalImplicit := by decide +kernel
theorem gl_Row_init_all : (defScope sRow_init).names.lookup ("all" : Str) = some .globalImplicit := by decide +kernel
theorem gl_Row_init_bool : (defScope sRow_init).names.lookup ("bool" : Str) = some .globalImplicit := by decide +kernel
theorem gl_Row_init_is_sequence : (defScope sRow_init).names.lookup ("is_sequence" : Str) = some .globalImplicit := by decide +kernel
theorem gl_Row_init_isinstance : (defScope sRow_init).names.lookup ("isinstance" : Str) = some .globalImplicit := by decide +kernel
theorem gl_Row_init_len : (defScope sRow_init).names.lookup ("len" : Str) = some .globalImplicit := by decide +kernel
theorem gl_Row_init_str : (defScope sRow_init).names.lookup ("str" : Str) = some .globalImplicit := by decide +kernel
theorem gl_Row_init_tuple : (defScope sRow_init).names.lookup ("tuple" : Str) = some .globalImplicit := by decide +kernel
local macro_rules | `(tactic| walk_at "pd.nm") => `(tactic| first
  | ((with_reducible show ed _ (Expr.Name "self" _) _ _ _); first | refine ed_nm v_Row_init_self rfl ?_ | refine ed_nmB (sc := defScope sRow_init) v_Row_init_self rfl ?_)
  | ((with_reducible show ed _ (Expr.Name "kind" _) _ _ _); first | refine ed_nm v_Row_init_kind rfl ?_ | refine ed_nmB (sc := defScope sRow_init) v_Row_init_kind rfl ?_)
  | ((with_reducible show ed _ (Expr.Name "tests" _) _ _ _); first | refine ed_nm v_Row_init_tests rfl ?_ | refine ed_nmB (sc := defScope sRow_init) v_Row_init_tests rfl ?_)
  | ((with_reducible show ed _ (Expr.Name "deeds" _) _ _ _); first | refine ed_nm v_Row_init_deeds rfl ?_ | refine ed_nmB (sc := defScope sRow_init) v_Row_init_deeds rfl ?_)
  | ((with_reducible show ed _ (Expr.Name "answer" _) _ _ _); first | refine ed_nm v_Row_init_answer rfl ?_ | refine ed_nmB (sc := defScope sRow_init) v_Row_init_answer rfl ?_)
  | ((with_reducible show ed _ (Expr.Name "test" _) _ _ _); refine ed_nmC (sc := defScope sRow_init) w_Row_init_test rfl ?_)
  | ((with_reducible show ed _ (Expr.Name "deed" _) _ _ _); refine ed_nmC (sc := defScope sRow_init) w_Row_init_deed rfl ?_)
  | ((with_reducible show ed _ (Expr.Name "InvalidRow" _) _ _ _); refine ed_gref (g_InvalidRow (by assumption)) ?_ (hg := by first | exact gl_of gl_Row_init_InvalidRow))
  | ((with_reducible show ed _ (Expr.Name "KINDS" _) _ _ _); refine ed_gtup (ys := cst_KINDS) (g_KINDS (by assumption)) (t_KINDS (by assumption)) ?_ (hg := by first | exact gl_of gl_Row_init_KINDS))
  | ((with_reducible show ed _ (Expr.Name "bool" _) _ _ _); refine ed_ty (n := "bool") (b_bool (by assumption)) bb_bool ?_ (hg := by first | exact gl_of gl_Row_init_bool))
  | ((with_reducible show ed _ (Expr.Name "str" _) _ _ _); refine ed_ty (n := "str") (b_str (by assumption)) bb_str ?_ (hg := by first | exact gl_of gl_Row_init_str))
  | ((with_reducible show ed _ (Expr.Name "tuple" _) _ _ _); refine ed_ty (n := "tuple") (b_tuple (by assumption)) bb_tuple ?_ (hg := by first | exact gl_of gl_Row_init_tuple))
  | fail)
local macro_rules | `(tactic| walk_at "pd.g") => `(tactic| first
  | ((with_reducible show gv _ (Expr.Name "test" _) _ _ _ _ _); refine gv_nmC (sc := defScope sRow_init) w_Row_init_test sc_Row_init.nd (by decide) ?_)
  | ((with_reducible show gv _ (Expr.Name "deed" _) _ _ _ _ _); refine gv_nmC (sc := defScope sRow_init) w_Row_init_deed sc_Row_init.nd (by decide) ?_)
  | fail)
local macro_rules | `(tactic| walk_at "pd.call") => `(tactic| first
  | ((with_reducible show ed _ (Expr.Call (Expr.Name "tuple" _) (_ :: _) _ _) _ _ _); refine ed_callTy (T := "tuple") (b_tuple (by assumption)) bb_tuple ?_ (hg := by first | exact gl_of gl_Row_init_tuple))
  | ((with_reducible show ed _ (Expr.Call (Expr.Name "isinstance" _) (_ :: _) _ _) _ _ _); refine ed_callB (id := "isinstance") (b_isinstance (by assumption)) bb_isinstance ?_ (hg := by first | exact gl_of gl_Row_init_isinstance))
  | ((with_reducible show ed _ (Expr.Call (Expr.Name "is_sequence" _) (_ :: _) _ _) _ _ _); refine ed_callC ((ok_is_sequence (by assumption)).at_ _) (by assumption) (by decide) (g_is_sequence (by assumption)) ?_ (hg := by first | exact gl_of gl_Row_init_is_sequence))
  | ((with_reducible show ed _ (Expr.Call (Expr.Name "all" _) (_ :: _) _ _) _ _ _); refine ed_callB (id := "all") (b_all (by assumption)) bb_all ?_ (hg := by first | exact gl_of gl_Row_init_all))
  | ((with_reducible show ed _ (Expr.Call (Expr.Name "len" _) (_ :: _) _ _) _ _ _); refine ed_callB (id := "len") (b_len (by assumption)) bb_len ?_ (hg := by first | exact gl_of gl_Row_init_len))
  | ((with_reducible show ed _ (Expr.Call (Expr.Name "is_test" _) (_ :: _) _ _) _ _ _); refine ed_callC ((ok_is_test (by assumption)).at_ _) (by assumption) (by decide) (g_is_test (by assumption)) ?_ (hg := by first | exact glB_of (sc := defScope sRow_init)))
  | ((with_reducible show ed _ (Expr.Call (Expr.Name "is_deed" _) (_ :: _) _ _) _ _ _); refine ed_callC ((ok_is_deed (by assumption)).at_ _) (by assumption) (by decide) (g_is_deed (by assumption)) ?_ (hg := by first | exact glB_of (sc := defScope sRow_init)))
  | fail)
local macro_rules | `(tactic| walk_at "pd.lc") => `(tactic| first
  | ((with_reducible show ed _ (Expr.ListComp _ [_] _ _) _ _ _); refine ed_lc (own := [("test", 5)]) [("test", 5)] rfl rfl sc_Row_init.nd (blkOk_by (N := N_Row_init) (sc := defScope sRow_init) (by decide +kernel)) ?_)
  | ((with_reducible show ed _ (Expr.ListComp _ [_] _ _) _ _ _); refine ed_lc (own := [("deed", 6)]) [("deed", 6)] rfl rfl sc_Row_init.nd (blkOk_by (N := N_Row_init) (sc := defScope sRow_init) (by decide +kernel)) ?_)
  | fail)
local macro_rules | `(tactic| walk_at "pd.it") => `(tactic| first
  | ((with_reducible show eid _ _ _ _ _ _); refine eid_of ?_)
  | fail)
local macro_rules | `(tactic| walk_at "pd.sfld") => `(tactic| first
  | ((with_reducible show sd _ (Stmt.Assign [Expr.Attribute _ "kind" _] _ _) _ _ _); refine sd_fld (c_Row (by assumption)) (n_Row_kind (by assumption)) ?_)
  | ((with_reducible show sd _ (Stmt.Assign [Expr.Attribute _ "tests" _] _ _) _ _ _); refine sd_fld (c_Row (by assumption)) (n_Row_tests (by assumption)) ?_)
  | ((with_reducible show sd _ (Stmt.Assign [Expr.Attribute _ "deeds" _] _ _) _ _ _); refine sd_fld (c_Row (by assumption)) (n_Row_deeds (by assumption)) ?_)
  | ((with_reducible show sd _ (Stmt.Assign [Expr.Attribute _ "answer" _] _ _) _ _ _); refine sd_fld (c_Row (by assumption)) (n_Row_answer (by assumption)) ?_)
  | fail)
local macro_rules | `(tactic| walk_at "pd.raise") => `(tactic| first
  | ((with_reducible show sd _ (Stmt.Raise (some (Expr.Call (Expr.Name "InvalidRow" _) _ _ _)) none _) _ _ _); refine sd_raiseOwn rfl (x_InvalidRow (by assumption)) (by assumption) (by decide) (g_InvalidRow (by assumption)) ?_ (hg := by first | exact gl_of gl_Row_init_InvalidRow))
  | fail)
theorem fnd_Row_init (T : T0 w K mg) {fd : FuncData} (F : FunD K "__init__" "Row.__init__" (defArgs sRow_init) (defBody sRow_init) (defScope sRow_init) (dRow_init.dvs K) (dRow_init.kws K) (He.fAd K dRow_init.at_) fd) {b : Md} : FnD b P w K mg base 3 (He.fAd K dRow_init.at_) fd ["self", "kind", "tests", "deeds", "answer"] (spRowG K) := by
  refine fnD_of F sc_Row_init fun cdv A outer s H F0 μ ds Qd Ed hr hl h => ?_
  obtain ⟨p, dx, μr, kd, te, de, an, rfl, rfl, hkd, hte, hde, han, hE, hQ⟩ := h
  show sds _ _ [some (.ref p), some kd, some te, some de, some an, none, none] _ _
  have bad : badK kd = true → Ed (.ref (He.ga K "InvalidRow")) ["word"] [.str "kind"] ((p, .ins (He.ga K "Row") dx [] []) :: μr) := fun h => hE _ (by unfold rowBad; rw [h]; rfl)
  refine sds_cons ?_
  cases kd with
  | str k =>
    walk_at "pd"
    refine ifn (fun h1 => ?_) (fun h1 => ?_)
    · walk_at "pd"
      exact bad (by show (!decide (k ∈ kindsL)) = true; rw [decide_eq_false (by exact h1)]; rfl)
    have hk : badK (.str k) = false := by show (!decide (k ∈ kindsL)) = false; rw [decide_eq_true (by exact h1)]; rfl
    have bad2 : badT k te = true → Ed (.ref (He.ga K "InvalidRow")) ["word"] [.str "tests"] ((p, .ins (He.ga K "Row") dx [] []) :: μr) := fun h => hE _ (by unfold rowBad; rw [hk]; show (if badT k te = true then _ else _) = _; rw [h]; rfl)
    walk_at "pd"
    refine Or.inl ⟨te, rfl, hte.ty, ?_⟩
    cases e1 : seqIt te with
    | none =>
      rw [isSeqD_none e1 hte.norl]
      walk_at "pd"
      exact bad2 (by unfold badT; rw [e1])
    | some ts =>
      rw [isSeqD_some e1]
      obtain ⟨htn, hta⟩ := hte.it ts e1
      walk_at "pd"
      refine lcd_fm (fun _ => true) (fun d => .bl (isTestD k d)) ?_
      walk_at "pd"
      refine itd_seq (seqD_of e1) ⟨by omega, seqD_of e1, fun d hd => ?_, ?_⟩
      · walk_at "pd"
        refine ⟨rfl, rfl, fun _ => ?_⟩
        walk_at "pd"
        exact ⟨d, k, rfl, hta d hd, rfl, rfl⟩
      rw [fm_bl (f := isTestD k) fun _ => rfl]
      walk_at "pd"
      rw [all_map]
      refine ifb (fun h2 => ?_) (fun h2 => ?_)
      · walk_at "pd"
        exact bad2 (by unfold badT; rw [e1]; exact h2)
      have hT : badT k te = false := by unfold badT; rw [e1]; exact h2
      have bad3 : badD k de = true → Ed (.ref (He.ga K "InvalidRow")) ["word"] [.str "deeds"] ((p, .ins (He.ga K "Row") dx [] []) :: μr) := fun h => hE _ (by unfold rowBad; rw [hk]; show (if badT k te = true then _ else if badD k de = true then _ else _) = _; rw [hT, h]; rfl)
      walk_at "pd"
      refine Or.inl ⟨de, rfl, hde.ty, ?_⟩
      cases e3 : seqIt de with
      | none =>
        rw [isSeqD_none e3 hde.norl]
        walk_at "pd"
        exact bad3 (by unfold badD; rw [e3])
      | some ws =>
        rw [isSeqD_some e3]
        obtain ⟨hwn, hwa⟩ := hde.it ws e3
        walk_at "pd"
        refine lcd_fm (fun _ => true) (fun d => .bl (isDeedD k d)) ?_
        walk_at "pd"
        refine itd_seq (seqD_of e3) ⟨by omega, seqD_of e3, fun d hd => ?_, ?_⟩
        · walk_at "pd"
          refine ⟨rfl, rfl, fun _ => ?_⟩
          walk_at "pd"
          exact ⟨d, k, rfl, hwa d hd, h1, rfl, rfl⟩
        rw [fm_bl (f := isDeedD k) fun _ => rfl]
        walk_at "pd"
        rw [all_map]
        refine ifb (fun h4 => ?_) (fun h4 => ?_)
        · walk_at "pd"
          exact bad3 (by unfold badD; rw [e3]; exact h4)
        have hD : badD k de = false := by unfold badD; rw [e3]; exact h4
        have bad4 : badA an de = true → Ed (.ref (He.ga K "InvalidRow")) ["word"] [.str "answer"] ((p, .ins (He.ga K "Row") dx [] []) :: μr) := fun h => hE _ (by unfold rowBad; rw [hk]; show (if badT k te = true then _ else if badD k de = true then _ else if badA an de = true then _ else _) = _; rw [hT, hD, h]; rfl)
        have fin : ∀ a, an = .bl a → badA an de = false → Qd .non ((p, .ins (He.ga K "Row") dx ["kind", "tests", "deeds", "answer"] [.str k, .tup ts, .tup ws, .bl a]) :: μr) := fun a ea h => hQ k ts ws a rfl e1 e3 ea (by unfold rowBad; rw [hk]; show (if badT k te = true then _ else if badD k de = true then _ else if badA an de = true then _ else _) = _; rw [hT, hD, h]; rfl)
        walk_at "pd"
        refine cld_isBl han ?_
        cases an with
        | bl a =>
          cases a with
          | true =>
            walk_at "pd"
            refine cld_tuple_seq (seqD_of e1) ?_
            walk_at "pd"
            refine cld_tuple_seq (seqD_of e3) ?_
            walk_at "pd"
            exact fin true rfl (by unfold badA; rw [e3]; rfl)
          | false =>
            walk_at "pd"
            refine cld_len_seq (seqD_of e3) ?_
            walk_at "pd"
            refine ifd (fun h5 => ?_) (fun h5 => ?_)
            · walk_at "pd"
              exact bad4 (by unfold badA; rw [e3]; show decide (0 < ws.length) = true; exact decide_eq_true (by omega))
            · walk_at "pd"
              refine cld_tuple_seq (seqD_of e1) ?_
              walk_at "pd"
              refine cld_tuple_seq (seqD_of e3) ?_
              walk_at "pd"
              exact fin false rfl (by unfold badA; rw [e3]; show decide (0 < ws.length) = false; exact decide_eq_false (by omega))
        | _ =>
          walk_at "pd"
          exact bad4 (by unfold badA; rfl)
  | _ =>
    first
    | (exfalso; obtain ⟨hx, -⟩ := hkd; revert hx; simp [tyN]; done)
    | (walk_at "pd"; first | exact bad rfl | (refine cld_isStr rfl ?_; walk_at "pd"; exact bad rfl))
end
end
section
variable {P : Program} {w : World} {K : PySem.W.Frag} {mg : Str → Option Value} {base : Heap}
/-! ### the class Row, for any arguments -/
def rowDD (C : Addr) (k : Str) (ts ws : List D) (a : Bool) : D := .obj C ["kind", "tests", "deeds", "answer"] [.str k, .tup ts, .tup ws, .bl a]
def rowD (C : Addr) (k : Str) (ts ws : List Str) (a : Bool) : D := .obj C ["kind", "tests", "deeds", "answer"] [.str k, .tup (ts.map .str), .tup (ws.map .str), .bl a]
def spRowGC (K : PySem.W.Frag) : SpD := fun ds μ Q E => ∃ kd te de an, ds = [kd, te, de, an] ∧ AskD kd ∧ SeqAsk te ∧ SeqAsk de ∧ (tyN an).isSome = true ∧
  (∀ w p dx, rowBad kd te de an = some w → E (.ref (He.ga K "InvalidRow")) ["word"] [.str w] ((p, .ins (He.ga K "Row") dx [] []) :: μ)) ∧
  (∀ k ts ws a, kd = .str k → seqIt te = some ts → seqIt de = some ws → an = .bl a → rowBad kd te de an = none → Q (rowDD (He.ga K "Row") k ts ws a) μ)
theorem rowG_C {K : PySem.W.Frag} (ds : List D) (μ : Mu) (Q : D → Mu → Prop) (E : Value → List Str → List D → Mu → Prop) (h : spRowGC K ds μ Q E) (p dx : Addr) : spRowG K (.ref p :: ds) ((p, .ins (He.ga K "Row") dx [] []) :: μ) (Frz Q p (He.ga K "Row") dx) E := by
  obtain ⟨kd, te, de, an, rfl, h1, h2, h3, h4, hE, hQ⟩ := h
  exact ⟨p, dx, μ, kd, te, de, an, rfl, rfl, h1, h2, h3, h4, fun w h => hE w p dx h, fun k ts ws a e1 e2 e3 e4 e5 => ⟨rfl, _, _, [], μ, rfl, hQ k ts ws a e1 e2 e3 e4 e5⟩⟩
section
theorem cd_Row_init (T : T0 w K mg) (n j : Nat) (hn : n + (3 - j) = 5) (dds : List D) (hdd : DfD K dds ((dRow_init.dvs K).drop j))
    (h : ∀ (T : Addr) (kV doc pm : Value) (an : Option Addr) (cdv ct : Value) (us its : List Value), us.length = n → its.length = 3 →
      ∃ k, bindArgs (PySem.W.fnOf "__init__" "Row.__init__" (defArgs sRow_init) (defBody sRow_init) (defScope sRow_init) (.ref T) kV doc pm an cdv ct) ⟨us, []⟩ = seqItems? (.ref T) >>= k ∧ k (some its.toArray) = pure ((["self", "kind", "tests", "deeds", "answer"] : List Str).zip (us ++ its.drop j))) :
    CallD P w K mg base 3 (He.ma K (He.ga K "Row") "__init__") 5 dds (spRowG K) := by
  obtain ⟨fd, F⟩ := f_Row_init T
  exact CallD.mkD F (fnd_Row_init T F) n j (by intro h; cases h) hn dds hdd h
theorem mk_Row_4 (T : T0 w K mg) : MakeD P w K mg base 3 (He.ga K "Row") 4 [] (spRowGC K) :=
  ⟨_, _, k_Row T, cd_Row_init T 5 3 rfl [] DfD.nil (fun _ _ _ _ _ _ _ us its h1 h2 => match us, its, h1, h2 with | [_, _, _, _, _], [_, _, _], _, _ => ⟨_, rfl, rfl⟩), rowG_C⟩
end
end
section
variable {P : Program} {w : World} {K : PySem.W.Frag} {mg : Str → Option Value} {base : Heap}
/-! ### the text of a row -/
def ifPart (ts : List Str) : List Str := if ts = [] then [] else [Str.ofString "if", Txt.join " and " ts]
def doPart (ws : List Str) : List Str := if ws = [] then [] else [Str.ofString "do", Txt.join " then " ws]
def yesNo (a : Bool) : Str := if a then "yes" else "no"
def rowWords (k : Str) (ts ws : List Str) (a : Bool) : List Str := [k] ++ ifPart ts ++ doPart ws ++ [yesNo a]
def rowText (k : Str) (ts ws : List Str) (a : Bool) : Str := Txt.join " " (rowWords k ts ws a)
structure RowTxt (k : Str) (ts ws : List Str) : Prop where
  kl : k.length ≤ 20
  tl : ∀ t ∈ ts, t.length ≤ 20
  wl : ∀ t ∈ ws, t.length ≤ 20
  tn : ts.length ≤ 1000
  wn : ws.length ≤ 1000
theorem ifPart_len (ts : List Str) : (ifPart ts).length ≤ 2 := by unfold ifPart; split <;> simp
theorem doPart_len (ts : List Str) : (doPart ts).length ≤ 2 := by unfold doPart; split <;> simp
theorem rowWords_len (k : Str) (ts ws : List Str) (a : Bool) : (rowWords k ts ws a).length ≤ 6 := by
  have h1 := ifPart_len ts
  have h2 := doPart_len ws
  unfold rowWords
  simp only [List.length_append, List.length_singleton]
  omega
theorem rowWords_each {k : Str} {ts ws : List Str} (R : RowTxt k ts ws) (a : Bool) : ∀ y ∈ rowWords k ts ws a, y.length ≤ 30000 := by
  intro y hy
  have e5 : (Str.ofString " and ").length = 5 := by decide
  have e6 : (Str.ofString " then ").length = 6 := by decide
  have j1 := len_join " and " ts
  have j2 := len_join " then " ws
  have s1 := sum_le R.tl
  have s2 := sum_le R.wl
  have n1 := R.tn
  have n2 := R.wn
  have hk := R.kl
  rw [e5] at j1
  rw [e6] at j2
  have y1 : (yesNo a).length ≤ 3 := by cases a <;> decide
  have w1 : (Str.ofString "if").length = 2 := by decide
  have w2 : (Str.ofString "do").length = 2 := by decide
  rcases List.mem_append.mp hy with hy | hy
  · rcases List.mem_append.mp hy with hy | hy
    · rcases List.mem_append.mp hy with hy | hy
      · rw [List.mem_singleton.mp hy]; omega
      · unfold ifPart at hy
        split at hy
        · exact (List.not_mem_nil hy).elim
        · rcases List.mem_cons.mp hy with rfl | hy
          · omega
          · rw [List.mem_singleton.mp hy]; omega
    · unfold doPart at hy
      split at hy
      · exact (List.not_mem_nil hy).elim
      · rcases List.mem_cons.mp hy with rfl | hy
        · omega
        · rw [List.mem_singleton.mp hy]; omega
  · rw [List.mem_singleton.mp hy]; omega
def spRowStr (C : Addr) : SpD := fun ds μ Q _ => ∃ k ts ws a, ds = [rowD C k ts ws a] ∧ RowTxt k ts ws ∧ Q (.str (rowText k ts ws a)) μ
section
abbrev N_Row_str : List Str := ["self", "words"]
theorem sc_Row_str : FnScope N_Row_str ["self"] (defScope sRow_str) := ⟨rfl, rfl, rfl, by decide +kernel, rfl, by decide +kernel, by decide +kernel⟩
theorem v_Row_str_self : Nm N_Row_str (defScope sRow_str) 0 "self" := ⟨rfl, by decide +kernel, by decide +kernel, by decide +kernel⟩
theorem v_Row_str_words : Nm N_Row_str (defScope sRow_str) 1 "words" := ⟨rfl, by decide +kernel, by decide +kernel, by decide +kernel⟩
theorem gl_Row_str_len : (defScope sRow_str).names.lookup ("len" : Str) = some .globalImplicit := by decide +kernel
local macro_rules | `(tactic| walk_at "pd.nm") => `(tactic| first
  | ((with_reducible show ed _ (Expr.Name "self" _) _ _ _); first | refine ed_nm v_Row_str_self rfl ?_ | refine ed_nmB (sc := defScope sRow_str) v_Row_str_self rfl ?_)
  | ((with_reducible show ed _ (Expr.Name "words" _) _ _ _); first | refine ed_nm v_Row_str_words rfl ?_ | refine ed_nmB (sc := defScope sRow_str) v_Row_str_words rfl ?_)
  | fail)
local macro_rules | `(tactic| walk_at "pd.set") => `(tactic| first
  | ((with_reducible show sd _ (Stmt.Assign [Expr.Name "words" _] _ _) _ _ _); refine sd_nm v_Row_str_words sc_Row_str.nd ?_)
  | fail)
local macro_rules | `(tactic| walk_at "pd.g") => `(tactic| first
  | ((with_reducible show gd _ (Expr.Name "words" _) _ _ _ _); refine gd_nm v_Row_str_words sc_Row_str.nd ?_)
  | fail)
local macro_rules | `(tactic| walk_at "pd.call") => `(tactic| first
  | ((with_reducible show ed _ (Expr.Call (Expr.Attribute _ "join" _) (_ :: _) _ _) _ _ _); with_reducible refine ed_bm PySem.F.plainAttrs_str PySem.F.slot_str_join PySem.F.type_str_join ?_)
  | ((with_reducible show ed _ (Expr.Call (Expr.Name "len" _) (_ :: _) _ _) _ _ _); refine ed_callB (id := "len") (b_len (by assumption)) bb_len ?_ (hg := by first | exact gl_of gl_Row_str_len))
  | ((with_reducible show ed _ (Expr.Call (Expr.Attribute _ "extend" _) (_ :: _) _ _) _ _ _); with_reducible refine ed_bm PySem.F.plainAttrs_list PySem.F.slot_list_extend PySem.F.type_list_extend ?_)
  | fail)
local macro_rules | `(tactic| walk_at "pd.it") => `(tactic| first
  | ((with_reducible show eid _ _ _ _ _ _); refine eid_of ?_)
  | fail)
local macro_rules | `(tactic| walk_at "pd.fld") => `(tactic| first
  | ((with_reducible show ed _ (Expr.Attribute _ "kind" _) _ _ _); refine ed_fld (c_Row (by assumption)) (n_Row_kind (by assumption)) ?_)
  | ((with_reducible show ed _ (Expr.Attribute _ "tests" _) _ _ _); refine ed_fld (c_Row (by assumption)) (n_Row_tests (by assumption)) ?_)
  | ((with_reducible show ed _ (Expr.Attribute _ "deeds" _) _ _ _); first | (refine ed_fld (c_Row (by assumption)) (n_Row_deeds (by assumption)) ?_; walk_at "pdF"; walk_at "pd.fldX") | (refine ed_fld (c_Store (by assumption)) (n_Store_deeds (by assumption)) ?_; walk_at "pdF"; walk_at "pd.fldX"))
  | ((with_reducible show ed _ (Expr.Attribute _ "answer" _) _ _ _); refine ed_fld (c_Row (by assumption)) (n_Row_answer (by assumption)) ?_)
  | fail)
theorem ok_Row_str (T : T0 w K mg) : CallD P w K mg base 1 (He.ma K (He.ga K "Row") "__str__") 1 [] (spRowStr (He.ga K "Row")) := by
  obtain ⟨fd, F⟩ := f_Row_str T
  refine CallD.mk0 (ps := ["self"]) F (fun _ _ _ _ _ _ us hl => match us, hl with | [_], _ => rfl) (fnD_of F sc_Row_str fun cdv A outer s H F0 μ ds Qd Ed hr hl h => ?_)
  obtain ⟨k, ts, ws, a, rfl, R, q⟩ := h
  show sds _ _ [some (rowD _ k ts ws a), none] _ _
  unfold rowD
  refine sds_cons ?_
  refine sd_nm v_Row_str_words sc_Row_str.nd ?_
  refine ed_lstO ?_
  walk_at "pd"
  intro p
  refine sds_cut (fun δ' μ' => δ' = [some (rowD (He.ga K "Row") k ts ws a), some (.ref p)] ∧ μ' = (p, .lst (([k] ++ ifPart ts).map .str)) :: μ) ?_ ?_
  · unfold rowD
    walk_at "pd"
    refine ifd (fun h => ?_) (fun h => ?_)
    · have hne : ts ≠ [] := by rintro rfl; exact absurd h (by decide)
      walk_at "pd"
      refine mtd_joinS ts (.tup _) rfl ?_ ?_
      · have h1 := sum_le R.tl
        have h2 := R.tn
        have e : (Str.ofString " and ").length = 5 := by decide
        rw [e]; omega
      · walk_at "pd"
        refine mtd_extend (μ1 := []) (ys := [.str "if", .str (Txt.join " and " ts)]) (small_eq 3 rfl) ?_
        unfold ifPart
        rw [if_neg hne]
        walk_at "pd"
        exact ⟨rfl, rfl⟩
    · have hne : ts = [] := by cases ts with | nil => rfl | cons t ts => exact absurd h (by simp)
      walk_at "pd"
      subst hne
      exact ⟨rfl, rfl⟩
  rintro δ' μ' ⟨rfl, rfl⟩
  refine sds_cut (fun δ' μ' => δ' = [some (rowD (He.ga K "Row") k ts ws a), some (.ref p)] ∧ μ' = (p, .lst (([k] ++ ifPart ts ++ doPart ws).map .str)) :: μ) ?_ ?_
  · unfold rowD
    walk_at "pd"
    refine ifd (fun h => ?_) (fun h => ?_)
    · have hne : ws ≠ [] := by rintro rfl; exact absurd h (by decide)
      walk_at "pd"
      refine mtd_joinS ws (.tup _) rfl ?_ ?_
      · have h1 := sum_le R.wl
        have h2 := R.wn
        have e : (Str.ofString " then ").length = 6 := by decide
        rw [e]; omega
      · walk_at "pd"
        refine mtd_extend (μ1 := []) (ys := [.str "do", .str (Txt.join " then " ws)]) ?_ ?_
        · unfold ifPart; split
          · exact small_eq 3 rfl
          · exact small_eq 5 rfl
        · unfold doPart
          rw [if_neg hne]
          walk_at "pd"
          refine ⟨rfl, ?_⟩
          rw [List.map_append (l₁ := [k] ++ ifPart ts)]; rfl
    · have hne : ws = [] := by cases ws with | nil => rfl | cons t ts => exact absurd h (by simp)
      walk_at "pd"
      subst hne
      refine ⟨rfl, ?_⟩
      show _ = (p, Cell.lst (([k] ++ ifPart ts ++ []).map D.str)) :: μ
      rw [List.append_nil]
  rintro δ' μ' ⟨rfl, rfl⟩
  unfold rowD
  refine sds_cons ?_
  refine sd_ret (ed_drop ?_)
  walk_at "pd"
  have hy : ∀ b, a = b → (List.map D.str ([k] ++ ifPart ts ++ doPart ws) ++ [D.str (yesNo b)]) = (rowWords k ts ws a).map .str := fun b e => by
    subst e; unfold rowWords; rw [List.map_append (l₁ := [k] ++ ifPart ts ++ doPart ws)]; rfl
  have hl6 : ((rowWords k ts ws a).map D.str).length ≤ 6 := by rw [List.length_map]; exact rowWords_len k ts ws a
  have hs6 : ((rowWords k ts ws a).map (·.length)).sum + (rowWords k ts ws a).length * (Str.ofString " ").length ≤ 16777216 := by
    have h1 := sum_le (rowWords_each R a)
    have h2 := rowWords_len k ts ws a
    have e : (Str.ofString " ").length = 1 := by decide
    rw [e]; omega
  refine ifb (fun ha => ?_) (fun ha => ?_)
  · walk_at "pd"
    have hy' := hy true ha
    refine ⟨by show (List.map D.str ([k] ++ ifPart ts ++ doPart ws) ++ [D.str (yesNo true)]).length ≤ _; rw [hy']; exact small_le (by omega), by show (List.map D.str ([k] ++ ifPart ts ++ doPart ws) ++ [D.str (yesNo true)]).length ≤ _; rw [hy']; omega, ?_⟩
    walk_at "pd"
    exact mtd_joinS (rowWords k ts ws a) (.lst _) hy' hs6 ⟨[], _, μ, rfl, q⟩
  · walk_at "pd"
    have hy' := hy false ha
    refine ⟨by show (List.map D.str ([k] ++ ifPart ts ++ doPart ws) ++ [D.str (yesNo false)]).length ≤ _; rw [hy']; exact small_le (by omega), by show (List.map D.str ([k] ++ ifPart ts ++ doPart ws) ++ [D.str (yesNo false)]).length ≤ _; rw [hy']; omega, ?_⟩
    walk_at "pd"
    exact mtd_joinS (rowWords k ts ws a) (.lst _) hy' hs6 ⟨[], _, μ, rfl, q⟩
end
end
section
variable {P : Program} {w : World} {K : PySem.W.Frag} {mg : Str → Option Value} {base : Heap}
/-! ### the text of a row tells the row -/
namespace RT
open TL
abbrev W := List Nat
def J (ps : List W) : W := joinL [32] ps
theorem joinL_app (S : W) : ∀ (A B : List W), A ≠ [] → B ≠ [] → joinL S (A ++ B) = joinL S A ++ (S ++ joinL S B)
  | [], _, h, _ => absurd rfl h
  | [p], [], _, h => absurd rfl h
  | [p], q :: r, _, _ => rfl
  | p :: q :: r, B, _, h => by
    show p ++ (S ++ joinL S ((q :: r) ++ B)) = (p ++ (S ++ joinL S (q :: r))) ++ (S ++ joinL S B)
    rw [joinL_app S (q :: r) B (by simp) h]
    simp [List.append_assoc]
theorem J_flat : ∀ (pss : List (List W)), (∀ ps ∈ pss, ps ≠ []) → J (pss.map J) = J pss.flatten
  | [], _ => rfl
  | [ps], _ => by simp [J, joinL]
  | ps :: qs :: r, h => by
    have ih := J_flat (qs :: r) fun x hx => h x (List.mem_cons_of_mem _ hx)
    have h1 := h ps List.mem_cons_self
    have h2 := h qs (List.mem_cons_of_mem _ List.mem_cons_self)
    have h3 : (qs :: r).flatten ≠ [] := by
      rw [List.flatten_cons]; intro z; exact h2 (List.append_eq_nil_iff.mp z).1
    show J ps ++ ([32] ++ J ((qs :: r).map J)) = J (ps ++ (qs :: r).flatten)
    rw [ih]; exact (joinL_app [32] ps _ h1 h3).symm
/-- parts with a word between -/
def inter (w : W) : List (List W) → List W
  | [] => []
  | [p] => p
  | p :: q :: r => p ++ w :: inter w (q :: r)
theorem inter_ne {w : W} : ∀ {ps : List (List W)}, ps ≠ [] → (∀ p ∈ ps, p ≠ []) → inter w ps ≠ []
  | [], h, _ => absurd rfl h
  | [p], _, h => h p List.mem_cons_self
  | p :: q :: r, _, _ => by show p ++ w :: _ ≠ []; simp
theorem J_inter {w : W} : ∀ {ps : List (List W)}, ps ≠ [] → (∀ p ∈ ps, p ≠ []) → joinL ([32] ++ w ++ [32]) (ps.map J) = J (inter w ps)
  | [], h, _ => absurd rfl h
  | [p], _, _ => rfl
  | p :: q :: r, _, h => by
    have ih := J_inter (w := w) (ps := q :: r) (by simp) fun x hx => h x (List.mem_cons_of_mem _ hx)
    have hn := inter_ne (w := w) (ps := q :: r) (by simp) fun x hx => h x (List.mem_cons_of_mem _ hx)
    show J p ++ (([32] ++ w ++ [32]) ++ joinL ([32] ++ w ++ [32]) ((q :: r).map J)) = J (p ++ w :: inter w (q :: r))
    rw [ih]
    have e1 : J (p ++ w :: inter w (q :: r)) = J p ++ ([32] ++ J (w :: inter w (q :: r))) := joinL_app [32] p _ (h p List.mem_cons_self) (by simp)
    have e2 : J (w :: inter w (q :: r)) = w ++ ([32] ++ J (inter w (q :: r))) := joinL_app [32] [w] _ (by simp) hn
    rw [e1, e2]; simp [List.append_assoc]
def cut (w : W) : List W → List (List W)
  | [] => [[]]
  | x :: xs => if x = w then [] :: cut w xs else match cut w xs with
    | c :: cs => (x :: c) :: cs
    | [] => [[x]]
theorem cut_part {w : W} : ∀ {p rest : List W}, w ∉ p → cut w (p ++ w :: rest) = p :: cut w rest
  | [], rest, _ => by show (if w = w then _ else _) = _; rw [if_pos rfl]
  | x :: p, rest, h => by
    have h1 : ¬ x = w := fun e => h (by rw [e]; exact List.mem_cons_self)
    show (if x = w then _ else _) = _
    rw [if_neg h1, show p.append (w :: rest) = p ++ w :: rest from rfl, cut_part fun z => h (List.mem_cons_of_mem _ z)]
theorem cut_last {w : W} : ∀ {p : List W}, w ∉ p → cut w p = [p]
  | [], _ => rfl
  | x :: p, h => by
    have h1 : ¬ x = w := fun e => h (by rw [e]; exact List.mem_cons_self)
    show (if x = w then _ else _) = _
    rw [if_neg h1, cut_last fun z => h (List.mem_cons_of_mem _ z)]
theorem cut_inter {w : W} : ∀ {ps : List (List W)}, ps ≠ [] → (∀ p ∈ ps, w ∉ p) → cut w (inter w ps) = ps
  | [], h, _ => absurd rfl h
  | [p], _, h => cut_last (h p List.mem_cons_self)
  | p :: q :: r, _, h => by
    show cut w (p ++ w :: inter w (q :: r)) = _
    rw [cut_part (h p List.mem_cons_self), cut_inter (by simp) fun x hx => h x (List.mem_cons_of_mem _ hx)]
theorem inter_mem {w x : W} : ∀ {ps : List (List W)}, x ∈ inter w ps → x = w ∨ ∃ p ∈ ps, x ∈ p
  | [], h => (List.not_mem_nil h).elim
  | [p], h => Or.inr ⟨p, List.mem_cons_self, h⟩
  | p :: q :: r, h => by
    rcases List.mem_append.mp (show x ∈ p ++ w :: inter w (q :: r) from h) with h | h
    · exact Or.inr ⟨p, List.mem_cons_self, h⟩
    · rcases List.mem_cons.mp h with h | h
      · exact Or.inl h
      · rcases inter_mem h with h | ⟨p', h1, h2⟩
        · exact Or.inl h
        · exact Or.inr ⟨p', List.mem_cons_of_mem _ h1, h2⟩
/-- the words of a test -/
def tk (t : Str) : List W := spl [32] 0 [] (tl t)
def allTests : List Str := ["loser points", "loser struck", "winner points", "winner struck", "points", "struck", "not loser points", "not loser struck", "not winner points", "not winner struck", "not points", "not struck"]
def wIf : W := tl "if"
def wAnd : W := tl "and"
def wDo : W := tl "do"
def wThen : W := tl "then"
theorem tests_fin : ∀ t ∈ allTests, J (tk t) = tl t ∧ tk t ≠ [] ∧ wAnd ∉ tk t ∧ wDo ∉ tk t ∧ ∀ x ∈ tk t, 32 ∉ x := by decide +kernel
def allDeeds : List Str := ["list", "lead", "sign", "move", "note", "mark", "point", "turn", "bare", "empty", "strike", "wake", "recall", "forget"]
theorem deeds_fin : ∀ t ∈ allDeeds, wThen ∉ [tl t] ∧ 32 ∉ tl t := by decide +kernel
theorem kinds_fin : ∀ t ∈ kindsL, 32 ∉ tl t := by decide +kernel
def ifT (ts : List Str) : List (List W) := if ts = [] then [] else [[wIf], inter wAnd (ts.map tk)]
def doT (ws : List Str) : List (List W) := if ws = [] then [] else [[wDo], inter wThen (ws.map fun w => [tl w])]
def groups (k : Str) (ts ws : List Str) (a : Bool) : List (List W) := [[tl k]] ++ ifT ts ++ doT ws ++ [[tl (yesNo a)]]
structure Fin' (k : Str) (ts ws : List Str) : Prop where
  k : k ∈ kindsL
  t : ∀ t ∈ ts, t ∈ allTests
  d : ∀ d ∈ ws, d ∈ allDeeds
theorem ifT_ne {ts : List Str} (h : ∀ t ∈ ts, t ∈ allTests) : ∀ g ∈ ifT ts, g ≠ [] := by
  unfold ifT
  split
  · intro g hg; exact (List.not_mem_nil hg).elim
  · next hn =>
    intro g hg
    rcases List.mem_cons.mp hg with rfl | hg
    · simp
    · rw [List.mem_singleton.mp hg]
      exact inter_ne (by simpa using hn) fun p hp => by
        obtain ⟨t, ht, rfl⟩ := List.mem_map.mp hp
        exact (tests_fin t (h t ht)).2.1
theorem doT_ne {ws : List Str} : ∀ g ∈ doT ws, g ≠ [] := by
  unfold doT
  split
  · intro g hg; exact (List.not_mem_nil hg).elim
  · next hn =>
    intro g hg
    rcases List.mem_cons.mp hg with rfl | hg
    · simp
    · rw [List.mem_singleton.mp hg]
      exact inter_ne (by simpa using hn) fun p hp => by
        obtain ⟨t, ht, rfl⟩ := List.mem_map.mp hp
        simp
theorem words_groups {k : Str} {ts ws : List Str} (a : Bool) (F : Fin' k ts ws) : (rowWords k ts ws a).map tl = (groups k ts ws a).map J := by
  have h1 : (ifPart ts).map tl = (ifT ts).map J := by
    unfold ifPart ifT
    split
    · rfl
    · next hn =>
      have e : tl (Txt.join " and " ts) = J (inter wAnd (ts.map tk)) := by
        rw [TL.join_eq, TL.tl_join, ← J_inter (by simpa using hn) (fun p hp => by
          obtain ⟨t, ht, rfl⟩ := List.mem_map.mp hp
          exact (tests_fin t (F.t t ht)).2.1), List.map_map]
        congr 1
        exact List.map_congr_left fun t ht => (tests_fin t (F.t t ht)).1.symm
      show [tl "if", tl (Txt.join " and " ts)] = [J [wIf], J (inter wAnd (ts.map tk))]
      rw [e]; rfl
  have h2 : (doPart ws).map tl = (doT ws).map J := by
    unfold doPart doT
    split
    · rfl
    · next hn =>
      have e : tl (Txt.join " then " ws) = J (inter wThen (ws.map fun w => [tl w])) := by
        rw [TL.join_eq, TL.tl_join, ← J_inter (by simpa using hn) (fun p hp => by
          obtain ⟨t, ht, rfl⟩ := List.mem_map.mp hp
          simp), List.map_map]
        rfl
      show [tl "do", tl (Txt.join " then " ws)] = [J [wDo], J (inter wThen (ws.map fun w => [tl w]))]
      rw [e]; rfl
  unfold rowWords groups
  rw [List.map_append, List.map_append, List.map_append, h1, h2, List.map_append, List.map_append, List.map_append]
  rfl
theorem text_toks {k : Str} {ts ws : List Str} (a : Bool) (F : Fin' k ts ws) : tl (rowText k ts ws a) = J (groups k ts ws a).flatten := by
  unfold rowText
  rw [TL.join_eq, TL.tl_join, words_groups a F]
  refine J_flat _ fun g hg => ?_
  unfold groups at hg
  rcases List.mem_append.mp hg with hg | hg
  · rcases List.mem_append.mp hg with hg | hg
    · rcases List.mem_append.mp hg with hg | hg
      · rw [List.mem_singleton.mp hg]; simp
      · exact ifT_ne F.t g hg
    · exact doT_ne g hg
  · rw [List.mem_singleton.mp hg]; simp
def I (ts : List Str) : List W := (ifT ts).flatten
def D' (ws : List Str) : List W := (doT ws).flatten
theorem groups_flat (k : Str) (ts ws : List Str) (a : Bool) : (groups k ts ws a).flatten = tl k :: (I ts ++ D' ws ++ [tl (yesNo a)]) := by
  unfold groups I D'
  simp [List.flatten_append, List.append_assoc]
theorem I_mem {ts : List Str} (h : ∀ t ∈ ts, t ∈ allTests) : ∀ x ∈ I ts, x ≠ wDo ∧ 32 ∉ x := by
  have w1 : wIf ≠ wDo ∧ 32 ∉ wIf := by decide
  have w2 : wAnd ≠ wDo ∧ 32 ∉ wAnd := by decide
  intro x hx
  unfold I ifT at hx
  split at hx
  · exact (List.not_mem_nil hx).elim
  · have hx' : x ∈ [wIf] ++ inter wAnd (ts.map tk) := by simpa using hx
    rcases List.mem_append.mp hx' with hx | hx
    · rw [List.mem_singleton.mp hx]; exact w1
    · rcases inter_mem hx with rfl | ⟨p, hp, hx⟩
      · exact w2
      · obtain ⟨t, ht, rfl⟩ := List.mem_map.mp hp
        have z := tests_fin t (h t ht)
        exact ⟨fun e => z.2.2.2.1 (e ▸ hx), z.2.2.2.2 x hx⟩
theorem D_mem {ws : List Str} (h : ∀ t ∈ ws, t ∈ allDeeds) : ∀ x ∈ D' ws, 32 ∉ x := by
  have w1 : 32 ∉ wDo := by decide
  have w2 : 32 ∉ wThen := by decide
  intro x hx
  unfold D' doT at hx
  split at hx
  · exact (List.not_mem_nil hx).elim
  · have hx' : x ∈ [wDo] ++ inter wThen (ws.map fun w => [tl w]) := by simpa using hx
    rcases List.mem_append.mp hx' with hx | hx
    · rw [List.mem_singleton.mp hx]; exact w1
    · rcases inter_mem hx with rfl | ⟨p, hp, hx⟩
      · exact w2
      · obtain ⟨t, ht, rfl⟩ := List.mem_map.mp hp
        rw [List.mem_singleton.mp hx]; exact (deeds_fin t (h t ht)).2
theorem toks_free {k : Str} {ts ws : List Str} (a : Bool) (F : Fin' k ts ws) : ∀ p ∈ (groups k ts ws a).flatten, 32 ∉ p := by
  intro p hp
  rw [groups_flat] at hp
  rcases List.mem_cons.mp hp with rfl | hp
  · exact kinds_fin k F.k
  · rcases List.mem_append.mp hp with hp | hp
    · rcases List.mem_append.mp hp with hp | hp
      · exact (I_mem F.t p hp).2
      · exact D_mem F.d p hp
    · rw [List.mem_singleton.mp hp]; cases a <;> decide
end RT
end
section
variable {P : Program} {w : World} {K : PySem.W.Frag} {mg : Str → Option Value} {base : Heap}
/-! ### told_between -/
def stepB (sign : Str) (s : List (List Str) × List Str) (w : Str) : List (List Str) × List Str := if w = sign then (s.1 ++ [s.2], []) else (s.1, s.2 ++ [w])
def partsB (ws : List Str) (sign : Str) : List (List Str) := (ws.foldl (stepB sign) ([], [])).1 ++ [(ws.foldl (stepB sign) ([], [])).2]
def toldB (ws : List Str) (sign : Str) : List Str := (partsB ws sign).map (Txt.join " ")
theorem foldB_len (sign : Str) : ∀ (ws : List Str) (s : List (List Str) × List Str), (ws.foldl (stepB sign) s).1.length ≤ s.1.length + ws.length ∧ (ws.foldl (stepB sign) s).2.length ≤ s.2.length + ws.length
  | [], s => by simp
  | w :: ws, s => by
    have h := foldB_len sign ws (stepB sign s w)
    have h2 : (stepB sign s w).1.length ≤ s.1.length + 1 ∧ (stepB sign s w).2.length ≤ s.2.length + 1 := by
      unfold stepB; split <;> simp
    rw [List.foldl_cons, List.length_cons]; omega
def wgtB (l : List Str) : Nat := (l.map (·.length)).sum + l.length
theorem wgtB_cons (w : Str) (l : List Str) : wgtB (w :: l) = w.length + 1 + wgtB l := by unfold wgtB; rw [List.map_cons, List.sum_cons, List.length_cons]; omega
theorem wgtB_snoc (w : Str) (l : List Str) : wgtB (l ++ [w]) = wgtB l + w.length + 1 := by unfold wgtB; rw [List.map_append, List.sum_append, List.length_append]; simp; omega
theorem foldB_part (sign : Str) (n : Nat) : ∀ (ws : List Str) (s : List (List Str) × List Str), (∀ p ∈ s.1, wgtB p ≤ n) → wgtB s.2 + wgtB ws ≤ n →
    (∀ p ∈ (ws.foldl (stepB sign) s).1 ++ [(ws.foldl (stepB sign) s).2], wgtB p ≤ n)
  | [], s, h1, h2 => by
    intro p hp
    rcases List.mem_append.mp hp with h | h
    · exact h1 p h
    · rw [List.mem_singleton.mp h]; exact Nat.le_trans (Nat.le_add_right _ _) h2
  | w :: ws, s, h1, h2 => by
    rw [wgtB_cons] at h2
    refine foldB_part sign n ws (stepB sign s w) ?_ ?_
    all_goals unfold stepB; split
    · intro p hp
      rcases List.mem_append.mp hp with h | h
      · exact h1 p h
      · rw [List.mem_singleton.mp h]; omega
    · exact h1
    · show 0 + wgtB ws ≤ n; omega
    · rw [wgtB_snoc]; omega
theorem partsB_len (ws : List Str) (sign : Str) : (partsB ws sign).length ≤ ws.length + 1 := by
  unfold partsB
  have := (foldB_len sign ws ([], [])).1
  rw [List.length_append, List.length_singleton]
  simp at this; omega
theorem toldB_len (ws : List Str) (sign : Str) : (toldB ws sign).length ≤ ws.length + 1 := by unfold toldB; rw [List.length_map]; exact partsB_len ws sign
theorem lt_line {n : Nat} (h : n ≤ 2000000) : n < sizeLine := Nat.lt_of_le_of_lt h (by decide)
def cellsB : List Addr → List (List Str) → Mu
  | q :: qs, p :: ps => (q, .lst (p.map .str)) :: cellsB qs ps
  | _, _ => []
theorem cellsB_mem : ∀ {qs : List Addr} {ps : List (List Str)} {i : Nat} {q : Addr} {p : List Str}, qs[i]? = some q → ps[i]? = some p → (q, Cell.lst (p.map .str)) ∈ cellsB qs ps
  | [], _, i, q, p, h, _ => by simp at h
  | _ :: _, [], i, q, p, _, h => by simp at h
  | a :: qs, b :: ps, 0, q, p, h1, h2 => by
    simp at h1 h2; subst h1 h2; exact List.mem_cons_self
  | a :: qs, b :: ps, i + 1, q, p, h1, h2 => by
    rw [List.getElem?_cons_succ] at h1 h2
    exact List.mem_cons_of_mem _ (cellsB_mem h1 h2)
theorem cellsB_snoc : ∀ {qs : List Addr} {ps : List (List Str)} {q : Addr} {p : List Str}, qs.length = ps.length → cellsB (qs ++ [q]) (ps ++ [p]) = cellsB qs ps ++ [(q, .lst (p.map .str))]
  | [], [], _, _, _ => rfl
  | _ :: qs, _ :: ps, _, _, h => by
    show _ :: cellsB (qs ++ [_]) (ps ++ [_]) = _ :: (cellsB qs ps ++ _)
    rw [cellsB_snoc (by simpa using h)]
  | [], _ :: _, _, _, h => by simp at h
  | _ :: _, [], _, _, h => by simp at h
def spTold : SpD := fun ds μ Q _ => ∃ (ws : List Str) (sign : Str), ds = [.lst (ws.map .str), .str sign] ∧ wgtB ws ≤ 900000 ∧ Q (.lst ((toldB ws sign).map .str)) μ
section
abbrev N_told_between : List Str := ["words", "sign", "found", "word", "part"]
theorem sc_told_between : FnScope N_told_between ["words", "sign"] (defScope stold_between) := ⟨rfl, rfl, rfl, by decide +kernel, rfl, by decide +kernel, by decide +kernel⟩
theorem v_told_between_words : Nm N_told_between (defScope stold_between) 0 "words" := ⟨rfl, by decide +kernel, by decide +kernel, by decide +kernel⟩
theorem v_told_between_sign : Nm N_told_between (defScope stold_between) 1 "sign" := ⟨rfl, by decide +kernel, by decide +kernel, by decide +kernel⟩
theorem v_told_between_found : Nm N_told_between (defScope stold_between) 2 "found" := ⟨rfl, by decide +kernel, by decide +kernel, by decide +kernel⟩
theorem v_told_between_word : Nm N_told_between (defScope stold_between) 3 "word" := ⟨rfl, by decide +kernel, by decide +kernel, by decide +kernel⟩
theorem w_told_between_part : NmB N_told_between 4 "part" := ⟨rfl, by decide +kernel, by decide +kernel⟩
theorem sl_told_between_found : (defScope stold_between).names.lookup ("found" : Str) = some .local := by decide +kernel
theorem sl_told_between_word : (defScope stold_between).names.lookup ("word" : Str) = some .local := by decide +kernel
local macro_rules | `(tactic| walk_at "pd.nm") => `(tactic| first
  | ((with_reducible show ed _ (Expr.Name "words" _) _ _ _); first | refine ed_nm v_told_between_words rfl ?_ | refine ed_nmB (sc := defScope stold_between) v_told_between_words rfl ?_)
  | ((with_reducible show ed _ (Expr.Name "sign" _) _ _ _); first | refine ed_nm v_told_between_sign rfl ?_ | refine ed_nmB (sc := defScope stold_between) v_told_between_sign rfl ?_)
  | ((with_reducible show ed _ (Expr.Name "found" _) _ _ _); first | refine ed_nm v_told_between_found rfl ?_ | refine ed_nmB (sc := defScope stold_between) v_told_between_found rfl ?_)
  | ((with_reducible show ed _ (Expr.Name "word" _) _ _ _); first | refine ed_nm v_told_between_word rfl ?_ | refine ed_nmB (sc := defScope stold_between) v_told_between_word rfl ?_)
  | ((with_reducible show ed _ (Expr.Name "part" _) _ _ _); refine ed_nmC (sc := defScope stold_between) w_told_between_part rfl ?_)
  | fail)
local macro_rules | `(tactic| walk_at "pd.set") => `(tactic| first
  | ((with_reducible show sd _ (Stmt.Assign [Expr.Name "found" _] (Expr.ListComp _ _ _ _) _) _ _ _); refine sd_setLc (own := [("part", 4)]) (i := 2) rfl sc_told_between.nd rfl (by exact sl_told_between_found) (sw_true rfl (by exact sl_told_between_found) rfl (by decide +kernel)) (blkOk_by (N := N_told_between) (sc := defScope stold_between) (by decide +kernel)) ?_)
  | ((with_reducible show sd _ (Stmt.Assign [Expr.Name "word" _] (Expr.ListComp _ _ _ _) _) _ _ _); refine sd_setLc (own := [("part", 4)]) (i := 3) rfl sc_told_between.nd rfl (by exact sl_told_between_word) (sw_true rfl (by exact sl_told_between_word) rfl (by decide +kernel)) (blkOk_by (N := N_told_between) (sc := defScope stold_between) (by decide +kernel)) ?_)
  | ((with_reducible show sd _ (Stmt.Assign [Expr.Name "found" _] _ _) _ _ _); refine sd_nm v_told_between_found sc_told_between.nd ?_)
  | ((with_reducible show sd _ (Stmt.Assign [Expr.Name "word" _] _ _) _ _ _); refine sd_nm v_told_between_word sc_told_between.nd ?_)
  | fail)
local macro_rules | `(tactic| walk_at "pd.g") => `(tactic| first
  | ((with_reducible show gd _ (Expr.Name "found" _) _ _ _ _); refine gd_nm v_told_between_found sc_told_between.nd ?_)
  | ((with_reducible show gd _ (Expr.Name "word" _) _ _ _ _); refine gd_nm v_told_between_word sc_told_between.nd ?_)
  | ((with_reducible show gv _ (Expr.Name "part" _) _ _ _ _ _); refine gv_nmC (sc := defScope stold_between) w_told_between_part sc_told_between.nd (by decide) ?_)
  | fail)
local macro_rules | `(tactic| walk_at "pd.call") => `(tactic| first
  | ((with_reducible show ed _ (Expr.Call (Expr.Attribute _ "join" _) (_ :: _) _ _) _ _ _); with_reducible refine ed_bm PySem.F.plainAttrs_str PySem.F.slot_str_join PySem.F.type_str_join ?_)
  | ((with_reducible show ed _ (Expr.Call (Expr.Attribute _ "append" _) (_ :: _) _ _) _ _ _); with_reducible refine ed_bm PySem.F.plainAttrs_list PySem.F.slot_list_append PySem.F.type_list_append ?_)
  | fail)
local macro_rules | `(tactic| walk_at "pd.lc") => `(tactic| first
  | ((with_reducible show ed _ (Expr.ListComp _ [_] _ _) _ _ _); refine ed_lc (own := [("part", 4)]) [("part", 4)] rfl rfl sc_told_between.nd (blkOk_by (N := N_told_between) (sc := defScope stold_between) (by decide +kernel)) ?_)
  | fail)
local macro_rules | `(tactic| walk_at "pd.it") => `(tactic| first
  | ((with_reducible show eid _ _ _ _ _ _); refine eid_of ?_)
  | fail)
local macro_rules | `(tactic| walk_at "pd.lst") => `(tactic| refine ed_lstO ?_)
theorem ok_told_between (T : T0 w K mg) : CallD P w K mg base 1 (He.ga K "told_between") 2 [] spTold := by
  obtain ⟨fd, F⟩ := f_told_between T
  refine CallD.mk0 (ps := ["words", "sign"]) F (fun _ _ _ _ _ _ us hl => match us, hl with | [_, _], _ => rfl) (fnD_of F sc_told_between fun cdv A outer s H F0 μ ds Qd Ed hr hl h => ?_)
  obtain ⟨ws, sign, rfl, hm, q⟩ := h
  have hn : ws.length ≤ 900000 := Nat.le_trans (Nat.le_add_left _ _) hm
  show sds _ _ [some (.lst (ws.map .str)), some (.str sign), none, none, none] _ _
  refine sds_cons ?_
  walk_at "pd"
  intro q0
  walk_at "pd"
  intro p
  walk_at "pd"
  refine sd_for rfl ?_
  walk_at "pd"
  refine ⟨fun i δ' μ' => ∃ (qs : List Addr) (q1 : Addr) (x3 : Option D) (s : List (List Str) × List Str), s = (ws.take i).foldl (stepB sign) ([], []) ∧ qs.length = s.1.length ∧ δ' = [some (.lst (ws.map .str)), some (.str sign), some (.ref p), x3, none] ∧ μ'.Perm ((p, .lst (qs.map .ref ++ [.ref q1])) :: (q1, .lst (s.2.map .str)) :: (cellsB qs s.1 ++ μ)),
    ⟨[], q0, none, ([], []), rfl, rfl, rfl, .rfl⟩, fun _ _ _ _ _ => trivial, ?_, ?_⟩
  · rintro i d δ' μ' hd ⟨qs, q1, x3, ⟨s1, s2⟩, hs, hq, rfl, hp⟩
    rw [List.getElem?_map] at hd
    obtain ⟨w1, hw, rfl⟩ : ∃ w1, ws[i]? = some w1 ∧ d = .str w1 := by
      cases e : ws[i]? with
      | none => rw [e] at hd; cases hd
      | some w1 => rw [e] at hd; cases hd; exact ⟨w1, rfl, rfl⟩
    have hi : i < ws.length := (List.getElem?_eq_some_iff.mp hw).1
    have hs' : (ws.take (i + 1)).foldl (stepB sign) ([], []) = stepB sign (s1, s2) w1 := by
      rw [List.take_succ, hw, List.foldl_append, ← hs]; rfl
    have hl1 := foldB_len sign (ws.take i) ([], [])
    rw [← hs, List.length_take] at hl1
    have hq' : qs.length = s1.length := hq
    walk_at "pdS"
    refine sds_mu _ hp ?_
    walk_at "pd"
    refine ifd (fun e => ?_) (fun e => ?_)
    · walk_at "pd"
      intro q2
      walk_at "pd"
      refine mtd_append (μ1 := [(q2, _)]) (lt_line (by simp at hl1 ⊢; omega)) ?_
      walk_at "pd"
      refine ⟨qs ++ [q1], q2, _, (s1 ++ [s2], []), ?_, by simp [hq], rfl, ?_⟩
      · rw [hs']; unfold stepB; rw [if_pos e]
      · rw [cellsB_snoc hq, List.map_append]
        refine (List.Perm.swap _ _ _).trans (.cons _ (.cons _ ?_))
        rw [List.append_assoc]
        exact List.perm_middle.symm
    · walk_at "pd"
      refine ixd_own List.mem_cons_self (atI_last' _ _) ?_
      walk_at "pd"
      refine mtd_append (μ1 := [(p, _)]) (lt_line (by simp at hl1 ⊢; omega)) ?_
      walk_at "pd"
      refine ⟨qs, q1, _, (s1, s2 ++ [w1]), ?_, hq, rfl, ?_⟩
      · rw [hs']; unfold stepB; rw [if_neg e]
      · rw [List.map_append]; exact .rfl
  · rintro δ' μ' ⟨qs, q1, x3, ⟨s1, s2⟩, hs, hq, rfl, hp⟩
    rw [List.length_map, List.take_length] at hs
    refine sds_mu _ hp ?_
    refine sds_cons ?_
    refine sd_ret (ed_dropL ?_)
    walk_at "pd"
    have hP : partsB ws sign = s1 ++ [s2] := by unfold partsB; rw [← hs]
    have hpl := partsB_len ws sign
    have hpart := foldB_part sign 900000 ws ([], []) (fun _ h => (List.not_mem_nil h).elim) (by show 0 + wgtB ws ≤ _; omega)
    rw [← hs] at hpart
    rw [hP, List.length_append, List.length_singleton] at hpl
    have hq' : qs.length = s1.length := hq
    refine lcd_ix (fun μ' => μ' = ((p, Cell.lst (List.map D.ref qs ++ [D.ref q1])) :: (q1, Cell.lst (List.map D.str s2)) :: (cellsB qs s1 ++ μ))) ((toldB ws sign).map .str) ?_
    walk_at "pd"
    refine itd_own List.mem_cons_self ⟨by simp; omega, by unfold toldB; rw [hP]; simp [hq'], rfl, fun _ e => by rw [e]; exact List.mem_cons_self, ?_, ?_⟩
    · rintro j d r μ' hd hr rfl
      have hj : j < s1.length + 1 := by
        have := (List.getElem?_eq_some_iff.mp hd).1
        simp at this; omega
      obtain ⟨part, hpt⟩ : ∃ part, (s1 ++ [s2])[j]? = some part := ⟨_, List.getElem?_eq_getElem (by simp; omega)⟩
      obtain ⟨a, ha⟩ : ∃ a, (qs ++ [q1])[j]? = some a := ⟨_, List.getElem?_eq_getElem (by simp; omega)⟩
      have hd2 : ((qs ++ [q1]).map D.ref)[j]? = some d := by rw [List.map_append]; exact hd
      rw [List.getElem?_map, ha] at hd2
      cases hd2
      unfold toldB at hr
      rw [hP, List.getElem?_map, List.getElem?_map, hpt] at hr
      cases hr
      have hmem : (a, Cell.lst (part.map .str)) ∈ (p, Cell.lst (List.map D.ref qs ++ [D.ref q1])) :: (q1, Cell.lst (List.map D.str s2)) :: (cellsB qs s1 ++ μ) := by
        have h1 := cellsB_mem ha hpt
        rw [cellsB_snoc hq] at h1
        rcases List.mem_append.mp h1 with h | h
        · exact List.mem_cons_of_mem _ (List.mem_cons_of_mem _ (List.mem_append_left _ h))
        · rw [List.mem_singleton.mp h]; exact List.mem_cons_of_mem _ List.mem_cons_self
      have hb := hpart part (List.mem_of_getElem? hpt)
      unfold wgtB at hb
      walk_at "pd"
      refine ⟨rfl, ?_⟩
      walk_at "pd"
      refine mtd_joinS part (.own hmem) rfl ?_ ⟨rfl, rfl⟩
      have e : (Str.ofString " ").length = 1 := by decide
      rw [e]; omega
    · rintro μ' rfl
      exact ⟨(p, Cell.lst (List.map D.ref qs ++ [D.ref q1])) :: (q1, Cell.lst (List.map D.str s2)) :: cellsB qs s1, μ, rfl, q⟩
end
end
section
variable {P : Program} {w : World} {K : PySem.W.Frag} {mg : Str → Option Value} {base : Heap}
/-! ### the words of a row's text -/
namespace RT
open TL
/-- partsB by recursion -/
def cutS (w : Str) : List Str → List (List Str)
  | [] => [[]]
  | x :: xs => if x = w then [] :: cutS w xs else match cutS w xs with
    | c :: cs => (x :: c) :: cs
    | [] => [[x]]
theorem cutS_ne (w : Str) : ∀ xs, ∃ c cs, cutS w xs = c :: cs
  | [] => ⟨_, _, rfl⟩
  | x :: xs => by
    obtain ⟨c, cs, e⟩ := cutS_ne w xs
    unfold cutS
    split
    · exact ⟨_, _, rfl⟩
    · rw [e]; exact ⟨_, _, rfl⟩
theorem fold_cut (w : Str) : ∀ (xs : List Str) (s : List (List Str) × List Str), (xs.foldl (stepB w) s).1 ++ [(xs.foldl (stepB w) s).2] = s.1 ++ (match cutS w xs with | c :: cs => (s.2 ++ c) :: cs | [] => [])
  | [], s => by simp [cutS]
  | x :: xs, s => by
    rw [List.foldl_cons, fold_cut w xs]
    obtain ⟨c, cs, e⟩ := cutS_ne w xs
    unfold stepB
    by_cases h : x = w
    · simp [cutS, e, h]
    · simp [cutS, e, h]
theorem partsB_cut (xs : List Str) (w : Str) : partsB xs w = cutS w xs := by
  unfold partsB
  rw [fold_cut w xs ([], [])]
  obtain ⟨c, cs, e⟩ := cutS_ne w xs
  rw [e]; simp
theorem cutS_tl (w : Str) : ∀ xs : List Str, (cutS w xs).map (fun p => p.map tl) = cut (tl w) (xs.map tl)
  | [] => rfl
  | x :: xs => by
    have ih := cutS_tl w xs
    obtain ⟨c, cs, e⟩ := cutS_ne w xs
    rw [e] at ih
    rw [List.map_cons]
    unfold cutS cut
    rw [← ih, e]
    by_cases h : x = w
    · rw [if_pos h, if_pos (by rw [h])]; rfl
    · rw [if_neg h, if_neg fun z => h (ext_tl z)]; rfl
/-- what is told between words: the parts put together again -/
theorem told_of {xs us : List Str} {w : Str} {f : Str → List W} (e : xs.map tl = inter (tl w) (us.map f)) (hne : us ≠ []) (h : ∀ u ∈ us, J (f u) = tl u ∧ tl w ∉ f u) : toldB xs w = us := by
  have e1 : (cutS w xs).map (fun p => p.map tl) = us.map f := by
    rw [cutS_tl, e, cut_inter (by simpa using hne)]
    intro p hp
    obtain ⟨u, hu, rfl⟩ := List.mem_map.mp hp
    exact (h u hu).2
  unfold toldB
  rw [partsB_cut]
  have key : ∀ (ps : List (List Str)) (us : List Str), ps.map (fun p => p.map tl) = us.map f → (∀ u ∈ us, J (f u) = tl u) → ps.map (Txt.join " ") = us := by
    intro ps
    induction ps with
    | nil => intro us e _; cases us with | nil => rfl | cons => cases e
    | cons p ps ih =>
      intro us e h
      cases us with
      | nil => cases e
      | cons u us =>
        injection e with e2 e3
        rw [List.map_cons, ih us e3 fun u hu => h u (List.mem_cons_of_mem _ hu)]
        congr 1
        refine ext_tl ?_
        have e2' : p.map tl = f u := e2
        rw [TL.join_eq, TL.tl_join, e2']
        exact h u List.mem_cons_self
  exact key _ us e1 fun u hu => (h u hu).1
theorem map_cons_of {xs : List Str} {a : W} {r : List W} (e : xs.map tl = a :: r) : ∃ y ys, xs = y :: ys ∧ tl y = a ∧ ys.map tl = r := by
  cases xs with
  | nil => cases e
  | cons y ys => injection e with e1 e2; exact ⟨y, ys, rfl, e1, e2⟩
theorem map_app_of : ∀ {xs : List Str} {a b : List W}, xs.map tl = a ++ b → ∃ ys zs, xs = ys ++ zs ∧ ys.map tl = a ∧ zs.map tl = b
  | xs, [], b, e => ⟨[], xs, rfl, rfl, e⟩
  | xs, x :: a, b, e => by
    obtain ⟨y, ys, rfl, h1, h2⟩ := map_cons_of e
    obtain ⟨us, zs, rfl, h3, h4⟩ := map_app_of h2
    exact ⟨y :: us, zs, rfl, by rw [List.map_cons, h1, h3], h4⟩
/-- the words of a row's text -/
structure RowWords (k : Str) (ts ws : List Str) (a : Bool) (If Do : List Str) : Prop where
  e : Txt.split (rowText k ts ws a) " " = k :: (If ++ Do ++ [yesNo a])
  i : (ts = [] ∧ If = []) ∨ (ts ≠ [] ∧ ∃ r : List Str, If = Str.ofString "if" :: r ∧ toldB r "and" = ts)
  d : (ws = [] ∧ Do = []) ∨ (ws ≠ [] ∧ ∃ r : List Str, Do = Str.ofString "do" :: r ∧ toldB r "then" = ws)
  nd : ∀ x ∈ If, x ≠ Str.ofString "do"
theorem words_of {k : Str} {ts ws : List Str} (a : Bool) (F : Fin' k ts ws) : ∃ If Do, RowWords k ts ws a If Do := by
  have h1 : (Txt.split (rowText k ts ws a) " ").map tl = tl k :: (I ts ++ D' ws ++ [tl (yesNo a)]) := by
    have e0 : tl (Str.ofString " ") = [32] := rfl
    rw [split_spl _ _ (by rw [e0]; simp) (kind_ok (by decide +kernel)), e0, text_toks a F, ← groups_flat]
    exact spl_join (s := 32) (S := []) (by rw [groups_flat]; simp) (toks_free a F)
  obtain ⟨y, ys, e1, e2, e3⟩ := map_cons_of h1
  obtain ⟨us, zs, rfl, e4, e5⟩ := map_app_of e3
  obtain ⟨If, Do, rfl, e6, e7⟩ := map_app_of e4
  obtain ⟨z, zs', rfl, e8, e9⟩ := map_cons_of e5
  obtain rfl : zs' = [] := List.map_eq_nil_iff.mp e9
  obtain rfl := ext_tl e2
  obtain rfl := ext_tl e8
  refine ⟨If, Do, e1, ?_, ?_, ?_⟩
  · by_cases q : ts = []
    · left
      unfold I ifT at e6
      rw [if_pos q] at e6
      exact ⟨q, List.map_eq_nil_iff.mp e6⟩
    · right
      unfold I ifT at e6
      rw [if_neg q] at e6
      have e6' : If.map tl = wIf :: inter wAnd (ts.map tk) := by simpa using e6
      obtain ⟨x, r, rfl, g1, g2⟩ := map_cons_of e6'
      obtain rfl := ext_tl g1
      exact ⟨q, r, rfl, told_of g2 q fun t ht => ⟨(tests_fin t (F.t t ht)).1, (tests_fin t (F.t t ht)).2.2.1⟩⟩
  · by_cases q : ws = []
    · left
      unfold D' doT at e7
      rw [if_pos q] at e7
      exact ⟨q, List.map_eq_nil_iff.mp e7⟩
    · right
      unfold D' doT at e7
      rw [if_neg q] at e7
      have e7' : Do.map tl = wDo :: inter wThen (ws.map fun w => [tl w]) := by simpa using e7
      obtain ⟨x, r, rfl, g1, g2⟩ := map_cons_of e7'
      obtain rfl := ext_tl g1
      exact ⟨q, r, rfl, told_of g2 q fun t ht => ⟨rfl, (deeds_fin t (F.d t ht)).1⟩⟩
  · rintro x hx rfl
    have : tl (Str.ofString "do") ∈ If.map tl := List.mem_map.mpr ⟨_, hx, rfl⟩
    rw [e6] at this
    exact (I_mem F.t _ this).1 rfl
end RT
end
section
variable {P : Program} {w : World} {K : PySem.W.Frag} {mg : Str → Option Value} {base : Heap}
/-! ### a row read -/
theorem isTestB_of {k t : Str} (hk : k ∈ kindsL) (h : TestOk k t) : t.length ≤ 20 ∧ isTestB k t = true := by
  have key : ∀ k ∈ kindsL, ∀ t ∈ testsOf k, t.length ≤ 20 ∧ isTestB k t = true ∧ ("not " ++ t : Str).length ≤ 20 ∧ isTestB k ("not " ++ t) = true := by decide +kernel
  rcases h with h | ⟨t0, h, rfl⟩
  · obtain ⟨a, b, -, -⟩ := key k hk t h; exact ⟨a, b⟩
  · obtain ⟨-, -, a, b⟩ := key k hk t0 h; exact ⟨a, b⟩
theorem isDeedB_of {k t : Str} (hk : k ∈ kindsL) (h : t ∈ deedsOf k) : t.length ≤ 20 ∧ isDeedB k t = true := by
  have key : ∀ k ∈ kindsL, ∀ t ∈ deedsOf k, t.length ≤ 20 ∧ isDeedB k t = true := by decide +kernel
  exact key k hk t h
theorem kind_len {k : Str} (hk : k ∈ kindsL) : k.length ≤ 20 := by
  have key : ∀ k ∈ kindsL, k.length ≤ 20 := by decide +kernel
  exact key k hk
theorem tests_all {k t : Str} (hk : k ∈ kindsL) (h : TestOk k t) : t ∈ RT.allTests := by
  have key : ∀ k ∈ kindsL, ∀ t ∈ testsOf k, t ∈ RT.allTests ∧ ("not " ++ t : Str) ∈ RT.allTests := by decide +kernel
  rcases h with h | ⟨t0, h, rfl⟩
  · exact (key k hk t h).1
  · exact (key k hk t0 h).2
theorem deeds_all {k t : Str} (hk : k ∈ kindsL) (h : t ∈ deedsOf k) : t ∈ RT.allDeeds := by
  have key : ∀ k ∈ kindsL, ∀ t ∈ deedsOf k, t ∈ RT.allDeeds := by decide +kernel
  exact key k hk t h
structure RowG (k : Str) (ts ws : List Str) (a : Bool) : Prop where
  ok : RowOk k ts ws a
  tn : ts.length ≤ 100
  wn : ws.length ≤ 100
section
variable {k : Str} {ts ws : List Str} {a : Bool}
theorem RowG.txt (G : RowG k ts ws a) : RowTxt k ts ws where
  kl := kind_len G.ok.kd
  tl := fun t ht => (isTestB_of G.ok.kd (G.ok.te t ht)).1
  wl := fun t ht => (isDeedB_of G.ok.kd (G.ok.de t ht)).1
  tn := by have := G.tn; omega
  wn := by have := G.wn; omega
theorem RowG.fin (G : RowG k ts ws a) : RT.Fin' k ts ws where
  k := G.ok.kd
  t := fun t ht => tests_all G.ok.kd (G.ok.te t ht)
  d := fun t ht => deeds_all G.ok.kd (G.ok.de t ht)
theorem RowG.askT (G : RowG k ts ws a) : ∀ y ∈ ts.map D.str, AskD y ∧ isTestD k y = true := fun y hy => by
  obtain ⟨t, ht, rfl⟩ := List.mem_map.mp hy
  obtain ⟨h1, h2⟩ := isTestB_of G.ok.kd (G.ok.te t ht)
  exact ⟨⟨rfl, fun z e => by cases e; omega⟩, h2⟩
theorem RowG.askD (G : RowG k ts ws a) : ∀ y ∈ ws.map D.str, AskD y ∧ isDeedD k y = true := fun y hy => by
  obtain ⟨t, ht, rfl⟩ := List.mem_map.mp hy
  obtain ⟨h1, h2⟩ := isDeedB_of G.ok.kd (G.ok.de t ht)
  exact ⟨⟨rfl, fun z e => by cases e; omega⟩, h2⟩
theorem RowG.good (G : RowG k ts ws a) {xt xd : D} (ht : seqIt xt = some (ts.map .str)) (hd : seqIt xd = some (ws.map .str)) : rowBad (.str k) xt xd (.bl a) = none := by
  have b0 : badK (.str k) = false := by show (!decide (k ∈ kindsL)) = false; rw [decide_eq_true G.ok.kd]; rfl
  have b1 : badT k xt = false := by unfold badT; rw [ht]; show (!(ts.map D.str).all (isTestD k)) = false; rw [List.all_eq_true.mpr fun y hy => (G.askT y hy).2]; rfl
  have b2 : badD k xd = false := by unfold badD; rw [hd]; show (!(ws.map D.str).all (isDeedD k)) = false; rw [List.all_eq_true.mpr fun y hy => (G.askD y hy).2]; rfl
  have b3 : badA (.bl a) xd = false := by
    unfold badA; rw [hd]
    show (!a && decide (0 < (ws.map D.str).length)) = false
    cases a with
    | true => rfl
    | false => rw [G.ok.an rfl]; rfl
  unfold rowBad
  rw [b0, if_neg (by decide)]
  show (if badT k xt = true then _ else if badD k xd = true then _ else if badA (.bl a) xd = true then _ else _) = _
  rw [b1, b2, b3]; rfl
/-- a row's arguments as they should be -/
theorem rowGC_of {K : PySem.W.Frag} {μ : Mu} {Q : D → Mu → Prop} {E : Value → List Str → List D → Mu → Prop} (G : RowG k ts ws a) {xt xd : D} (hx1 : (tyN xt).isSome = true) (hx2 : (tyN xd).isSome = true) (hr1 : ∀ xs, xt ≠ .rl xs) (hr2 : ∀ xs, xd ≠ .rl xs) (ht : seqIt xt = some (ts.map .str)) (hd : seqIt xd = some (ws.map .str)) (q : Q (rowD (He.ga K "Row") k ts ws a) μ) :
    spRowGC K [.str k, xt, xd, .bl a] μ Q E := by
  have hb := G.good ht hd
  refine ⟨_, _, _, _, rfl, ⟨rfl, fun z e => by cases e; have := kind_len G.ok.kd; omega⟩, ⟨hx1, hr1, fun xs e => ?_⟩, ⟨hx2, hr2, fun xs e => ?_⟩, rfl, fun w p dx h => ?_, fun k' ts' ws' a' e1 e2 e3 e4 _ => ?_⟩
  · rw [ht] at e; cases e
    exact ⟨by rw [List.length_map]; have := G.tn; omega, fun y hy => (G.askT y hy).1⟩
  · rw [hd] at e; cases e
    exact ⟨by rw [List.length_map]; have := G.wn; omega, fun y hy => (G.askD y hy).1⟩
  · rw [hb] at h; cases h
  · cases e1; cases e4
    rw [ht] at e2; rw [hd] at e3
    cases e2; cases e3
    exact q
end
end
section
variable {P : Program} {w : World} {K : PySem.W.Frag} {mg : Str → Option Value} {base : Heap}
/-! ### stores -/
structure Rw where
  k : Str
  ts : List Str
  ws : List Str
  a : Bool
deriving DecidableEq
def Rw.d (C : Addr) (r : Rw) : D := rowD C r.k r.ts r.ws r.a
def Rw.txt (r : Rw) : Str := rowText r.k r.ts r.ws r.a
def Rw.ok (r : Rw) : Prop := RowG r.k r.ts r.ws r.a
def rwDs (C : Addr) (rs : List Rw) : List D := rs.map (Rw.d C)
def deedsD : Nat → List Rw → List D
  | _, [] => []
  | i, r :: rs => r.ws.map (fun w => D.tup [.int (i : Int), .str w]) ++ deedsD (i + 1) rs
theorem deedsD_snoc : ∀ (i : Nat) (rs : List Rw) (r : Rw), deedsD i (rs ++ [r]) = deedsD i rs ++ r.ws.map (fun w => D.tup [.int ((i + rs.length : Nat) : Int), .str w])
  | i, [], r => by simp [deedsD]
  | i, x :: rs, r => by
    rw [List.cons_append, deedsD, deedsD, deedsD_snoc (i + 1) rs r, List.append_assoc, List.length_cons]
    rw [show i + 1 + rs.length = i + (rs.length + 1) from by omega]
theorem deedsD_len {m : Nat} : ∀ (i : Nat) (rs : List Rw), (∀ r ∈ rs, r.ws.length ≤ m) → (deedsD i rs).length ≤ rs.length * m
  | i, [], _ => by simp [deedsD]
  | i, r :: rs, h => by
    have h1 := deedsD_len (i + 1) rs fun x hx => h x (List.mem_cons_of_mem _ hx)
    have h2 := h r List.mem_cons_self
    rw [deedsD, List.length_append, List.length_map, List.length_cons, Nat.succ_mul]; omega
def storeD (K : PySem.W.Frag) (rs : List Rw) : D := .obj (He.ga K "Store") ["rows", "deeds"] [.tup (rwDs (He.ga K "Row") rs), .tup (deedsD 0 rs)]
/-- whether a thing is a row, whatever cells there are -/
def RowB (K : PySem.W.Frag) (d : D) (b : Bool) : Prop := ∃ t, (∀ μ, TyQ K μ d t) ∧ PySem.W.kitOne K t (.ref (He.ga K "Row")) = some b
/-- what is handed in as rows -/
inductive StAsk (K : PySem.W.Frag) (μ : Mu) : D → Option (List Rw) → Prop where
  | good {x} (rs : List Rw) (hs : SeqD μ x (rwDs (He.ga K "Row") rs)) (hn : rs.length ≤ 100) (ho : ∀ r ∈ rs, r.ws.length ≤ 100) : StAsk K μ x (some rs)
  | bad {x} (xs : List D) (bs : List Bool) (hs : SeqD μ x xs) (hn : xs.length ≤ 1000) (hl : bs.length = xs.length) (hb : ∀ (i : Nat) (d : D) (b : Bool), xs[i]? = some d → bs[i]? = some b → RowB K d b) (hf : bs.all id = false) : StAsk K μ x none
  | noSeq {x} (h : (tyN x).isSome = true) (h2 : isSeqD x = false) : StAsk K μ x none
  | own {x t} (h : ∀ μ, TyQ K μ x t) (h2 : PySem.W.kitAny K t [.type "list", .type "tuple"] = some false) : StAsk K μ x none
def spStoreI (K : PySem.W.Frag) : SpD := fun ds μ Q E => ∃ p dx μr x o, ds = [.ref p, x] ∧ μ = (p, .ins (He.ga K "Store") dx [] []) :: μr ∧ StAsk K μr x o ∧
  (o = none → E (.ref (He.ga K "InvalidStore")) ["word"] [.str "rows"] μ) ∧
  (∀ rs, o = some rs → Q .non ((p, .ins (He.ga K "Store") dx ["rows", "deeds"] [.tup (rwDs (He.ga K "Row") rs), .tup (deedsD 0 rs)]) :: μr))
theorem rwDs_get (C : Addr) (rs : List Rw) (i : Nat) : (rwDs C rs)[i]? = (rs[i]?).map (Rw.d C) := by unfold rwDs; rw [List.getElem?_map]
theorem rwDs_len (C : Addr) (rs : List Rw) : (rwDs C rs).length = rs.length := by unfold rwDs; rw [List.length_map]
theorem all_true {n : Nat} : (List.replicate n true).all id = true := by induction n with | zero => rfl | succ n ih => rw [List.replicate_succ, List.all_cons, ih]; rfl
section
abbrev N_Store_init : List Str := ["self", "rows", "row", "at", "deed"]
theorem sc_Store_init : FnScope N_Store_init ["self", "rows"] (defScope sStore_init) := ⟨rfl, rfl, rfl, by decide +kernel, rfl, by decide +kernel, by decide +kernel⟩
theorem v_Store_init_self : Nm N_Store_init (defScope sStore_init) 0 "self" := ⟨rfl, by decide +kernel, by decide +kernel, by decide +kernel⟩
theorem v_Store_init_rows : Nm N_Store_init (defScope sStore_init) 1 "rows" := ⟨rfl, by decide +kernel, by decide +kernel, by decide +kernel⟩
theorem w_Store_init_row : NmB N_Store_init 2 "row" := ⟨rfl, by decide +kernel, by decide +kernel⟩
theorem w_Store_init_at : NmB N_Store_init 3 "at" := ⟨rfl, by decide +kernel, by decide +kernel⟩
theorem w_Store_init_deed : NmB N_Store_init 4 "deed" := ⟨rfl, by decide +kernel, by decide +kernel⟩
theorem gl_Store_init_InvalidStore : (defScope sStore_init).names.lookup ("InvalidStore" : Str) = some .globalImplicit := by decide +kernel
theorem gl_Store_init_all : (defScope sStore_init).names.lookup ("all" : Str) = some .globalImplicit := by decide +kernel
theorem gl_Store_init_enumerate : (defScope sStore_init).names.lookup ("enumerate" : Str) = some .globalImplicit := by decide +kernel
theorem gl_Store_init_is_sequence : (defScope sStore_init).names.lookup ("is_sequence" : Str) = some .globalImplicit := by decide +kernel
theorem gl_Store_init_tuple : (defScope sStore_init).names.lookup ("tuple" : Str) = some .globalImplicit := by decide +kernel
local macro_rules | `(tactic| walk_at "pd.nm") => `(tactic| first
  | ((with_reducible show ed _ (Expr.Name "self" _) _ _ _); first | refine ed_nm v_Store_init_self rfl ?_ | refine ed_nmB (sc := defScope sStore_init) v_Store_init_self rfl ?_)
  | ((with_reducible show ed _ (Expr.Name "rows" _) _ _ _); first | refine ed_nm v_Store_init_rows rfl ?_ | refine ed_nmB (sc := defScope sStore_init) v_Store_init_rows rfl ?_)
  | ((with_reducible show ed _ (Expr.Name "row" _) _ _ _); refine ed_nmC (sc := defScope sStore_init) w_Store_init_row rfl ?_)
  | ((with_reducible show ed _ (Expr.Name "at" _) _ _ _); refine ed_nmC (sc := defScope sStore_init) w_Store_init_at rfl ?_)
  | ((with_reducible show ed _ (Expr.Name "deed" _) _ _ _); refine ed_nmC (sc := defScope sStore_init) w_Store_init_deed rfl ?_)
  | ((with_reducible show ed _ (Expr.Name "InvalidStore" _) _ _ _); refine ed_gref (g_InvalidStore (by assumption)) ?_ (hg := by first | exact gl_of gl_Store_init_InvalidStore))
  | ((with_reducible show ed _ (Expr.Name "Row" _) _ _ _); refine ed_gref (g_Row (by assumption)) ?_ (hg := by first | exact glB_of (sc := defScope sStore_init)))
  | ((with_reducible show ed _ (Expr.Name "enumerate" _) _ _ _); refine ed_ty (n := "enumerate") (b_enumerate (by assumption)) bb_enumerate ?_ (hg := by first | exact gl_of gl_Store_init_enumerate | exact glB_of (sc := defScope sStore_init)))
  | ((with_reducible show ed _ (Expr.Name "tuple" _) _ _ _); refine ed_ty (n := "tuple") (b_tuple (by assumption)) bb_tuple ?_ (hg := by first | exact gl_of gl_Store_init_tuple))
  | fail)
local macro_rules | `(tactic| walk_at "pd.g") => `(tactic| first
  | ((with_reducible show gv _ (Expr.Name "row" _) _ _ _ _ _); refine gv_nmC (sc := defScope sStore_init) w_Store_init_row sc_Store_init.nd (by decide) ?_)
  | ((with_reducible show gv _ (Expr.Name "at" _) _ _ _ _ _); refine gv_nmC (sc := defScope sStore_init) w_Store_init_at sc_Store_init.nd (by decide) ?_)
  | ((with_reducible show gv _ (Expr.Name "deed" _) _ _ _ _ _); refine gv_nmC (sc := defScope sStore_init) w_Store_init_deed sc_Store_init.nd (by decide) ?_)
  | fail)
local macro_rules | `(tactic| walk_at "pd.call") => `(tactic| first
  | ((with_reducible show ed _ (Expr.Call (Expr.Name "tuple" _) (_ :: _) _ _) _ _ _); refine ed_callTy (T := "tuple") (b_tuple (by assumption)) bb_tuple ?_ (hg := by first | exact gl_of gl_Store_init_tuple))
  | ((with_reducible show ed _ (Expr.Call (Expr.Name "is_sequence" _) (_ :: _) _ _) _ _ _); refine ed_callC ((ok_is_sequence (by assumption)).at_ _) (by assumption) (by decide) (g_is_sequence (by assumption)) ?_ (hg := by first | exact gl_of gl_Store_init_is_sequence))
  | ((with_reducible show ed _ (Expr.Call (Expr.Name "all" _) (_ :: _) _ _) _ _ _); refine ed_callB (id := "all") (b_all (by assumption)) bb_all ?_ (hg := by first | exact gl_of gl_Store_init_all))
  | ((with_reducible show ed _ (Expr.Call (Expr.Name "isinstance" _) (_ :: _) _ _) _ _ _); refine ed_callB (id := "isinstance") (b_isinstance (by assumption)) bb_isinstance ?_ (hg := by first | exact glB_of (sc := defScope sStore_init)))
  | fail)
local macro_rules | `(tactic| walk_at "pd.lc") => `(tactic| first
  | ((with_reducible show ed _ (Expr.ListComp _ [_, _] _ _) _ _ _); refine ed_lc2 (own := [("at", 3), ("row", 2), ("deed", 4)]) (vs1 := [4]) [("at", 3), ("row", 2), ("deed", 4)] rfl rfl sc_Store_init.nd (blkOk_by (N := N_Store_init) (sc := defScope sStore_init) (by decide +kernel)) (by decide) ?_)
  | ((with_reducible show ed _ (Expr.ListComp _ [_] _ _) _ _ _); refine ed_lc (own := [("at", 3), ("row", 2), ("deed", 4)]) [("at", 3), ("row", 2), ("deed", 4)] rfl rfl sc_Store_init.nd (blkOk_by (N := N_Store_init) (sc := defScope sStore_init) (by decide +kernel)) ?_)
  | ((with_reducible show ed _ (Expr.ListComp _ [_] _ _) _ _ _); refine ed_lc (own := [("row", 2)]) [("row", 2)] rfl rfl sc_Store_init.nd (blkOk_by (N := N_Store_init) (sc := defScope sStore_init) (by decide +kernel)) ?_)
  | fail)
local macro_rules | `(tactic| walk_at "pd.it") => `(tactic| first
  | ((with_reducible show eid _ _ (Expr.Call (Expr.Name "enumerate" _) [_] _ _) _ _ _); refine eid_enumS (b_enumerate (by assumption)) ?_ (hg := by first | exact gl_of gl_Store_init_enumerate | exact glB_of (sc := defScope sStore_init)))
  | ((with_reducible show eid _ _ _ _ _ _); refine eid_of ?_)
  | fail)
local macro_rules | `(tactic| walk_at "pd.sfld") => `(tactic| first
  | ((with_reducible show sd _ (Stmt.Assign [Expr.Attribute _ "rows" _] _ _) _ _ _); refine sd_fld (c_Store (by assumption)) (n_Store_rows (by assumption)) ?_)
  | ((with_reducible show sd _ (Stmt.Assign [Expr.Attribute _ "deeds" _] _ _) _ _ _); refine sd_fld (c_Store (by assumption)) (n_Store_deeds (by assumption)) ?_)
  | fail)
local macro_rules | `(tactic| walk_at "pd.fld") => `(tactic| first
  | ((with_reducible show ed _ (Expr.Attribute _ "deeds" _) _ _ _); first | (refine ed_fld (c_Row (by assumption)) (n_Row_deeds (by assumption)) ?_; walk_at "pdF"; walk_at "pd.fldX") | (refine ed_fld (c_Store (by assumption)) (n_Store_deeds (by assumption)) ?_; walk_at "pdF"; walk_at "pd.fldX"))
  | fail)
local macro_rules | `(tactic| walk_at "pd.raise") => `(tactic| first
  | ((with_reducible show sd _ (Stmt.Raise (some (Expr.Call (Expr.Name "InvalidStore" _) _ _ _)) none _) _ _ _); refine sd_raiseOwn rfl (x_InvalidStore (by assumption)) (by assumption) (by decide) (g_InvalidStore (by assumption)) ?_ (hg := by first | exact gl_of gl_Store_init_InvalidStore))
  | fail)
theorem fnd_Store_init (T : T0 w K mg) {fd : FuncData} (F : FunD K "__init__" "Store.__init__" (defArgs sStore_init) (defBody sStore_init) (defScope sStore_init) (dStore_init.dvs K) (dStore_init.kws K) (He.fAd K dStore_init.at_) fd) {b : Md} : FnD b P w K mg base 3 (He.fAd K dStore_init.at_) fd ["self", "rows"] (spStoreI K) := by
  refine fnD_of F sc_Store_init fun cdv A outer s H F0 μ ds Qd Ed hr hl h => ?_
  obtain ⟨p, dx, μr, x, o, rfl, rfl, hx, hE, hQ⟩ := h
  show sds _ _ [some (.ref p), some x, none, none, none] _ _
  refine sds_cons ?_
  cases hx with
  | noSeq h1 h2 =>
    walk_at "pd"
    refine Or.inl ⟨x, rfl, h1, ?_⟩
    rw [h2]
    walk_at "pd"
    exact hE rfl
  | own h1 h2 =>
    walk_at "pd"
    refine Or.inr (Or.inr ⟨x, _, rfl, h1 _, h2, ?_⟩)
    walk_at "pd"
    exact hE rfl
  | bad xs bs hs hn hl hb hf =>
    have hs' := hs.cons (p, .ins (He.ga K "Store") dx [] [])
    walk_at "pd"
    refine Or.inr (Or.inl ⟨x, xs, rfl, hs', ?_⟩)
    walk_at "pd"
    refine lcd_ix (fun μ' => μ' = (p, .ins (He.ga K "Store") dx [] []) :: μr) (bs.map .bl) ?_
    walk_at "pd"
    refine itd_seq hs' ?_
    refine ⟨by omega, by rw [List.length_map, hl], rfl, fun _ e => by rw [e]; exact hs', ?_, ?_⟩
    · rintro i d r μ' hd hr2 rfl
      rw [List.getElem?_map] at hr2
      cases hb2 : bs[i]? with
      | none => rw [hb2] at hr2; cases hr2
      | some b =>
        rw [hb2] at hr2
        cases hr2
        obtain ⟨t, h1, h2⟩ := hb i d b hd hb2
        walk_at "pd"
        refine ⟨rfl, ?_⟩
        walk_at "pd"
        refine cld_isi (h1 _) rfl h2 ?_
        exact ⟨rfl, rfl⟩
    · rintro μ' rfl
      walk_at "pd"
      rw [hf]
      walk_at "pd"
      exact hE rfl
  | good rs hs hn ho =>
    have hs' := hs.cons (p, .ins (He.ga K "Store") dx [] [])
    walk_at "pd"
    refine Or.inr (Or.inl ⟨x, _, rfl, hs', ?_⟩)
    walk_at "pd"
    refine lcd_ix (fun μ' => μ' = (p, .ins (He.ga K "Store") dx [] []) :: μr) ((List.replicate rs.length true).map .bl) ?_
    walk_at "pd"
    refine itd_seq hs' ?_
    refine ⟨by rw [rwDs_len]; omega, by rw [List.length_map, List.length_replicate, rwDs_len], rfl, fun _ e => by rw [e]; exact hs', ?_, ?_⟩
    · rintro i d r μ' hd hr2 rfl
      rw [rwDs_get] at hd
      cases hi : rs[i]? with
      | none => rw [hi] at hd; cases hd
      | some rw0 =>
        rw [hi] at hd
        cases hd
        have hr3 : r = .bl true := by
          rw [List.getElem?_map, List.getElem?_replicate, if_pos (List.getElem?_eq_some_iff.mp hi).1] at hr2
          cases hr2; rfl
        subst hr3
        walk_at "pd"
        refine ⟨rfl, ?_⟩
        walk_at "pd"
        unfold Rw.d rowD
        refine cld_isi (.obj (ct_Row T) _ _) rfl kit_same ?_
        exact ⟨rfl, rfl⟩
    · rintro μ' rfl
      walk_at "pd"
      rw [all_true]
      walk_at "pd"
      refine cld_tuple_seq hs' ?_
      walk_at "pd"
      have hs2 := hs.cons (p, .ins (He.ga K "Store") dx ["rows"] [.tup (rwDs (He.ga K "Row") rs)])
      show lcd2 _ _ _ _ _ _ _ _ _ _ _ _ ((p, .ins (He.ga K "Store") dx ["rows"] [.tup (rwDs (He.ga K "Row") rs)]) :: μr) _
      show eid _ _ _ _ _ _
      walk_at "pd"
      refine ⟨fun i acc μ' => acc = deedsD 0 (rs.take i) ∧ μ' = (p, .ins (He.ga K "Store") dx ["rows"] [.tup (rwDs (He.ga K "Row") rs)]) :: μr, ⟨rfl, rfl⟩, fun _ _ _ _ e => by rw [e.2]; exact hs2, ?_, ?_⟩
      · rintro i d acc μ' hd ⟨rfl, rfl⟩
        obtain ⟨y, hy, rfl⟩ := enumD_get hd
        rw [rwDs_get] at hy
        cases hi : rs[i]? with
        | none => rw [hi] at hy; cases hy
        | some r =>
          rw [hi] at hy
          cases hy
          have hil := (List.getElem?_eq_some_iff.mp hi).1
          have hin : (rs.take i).length = i := by rw [List.length_take]; omega
          have hlen := deedsD_len (m := 100) 0 (rs.take i) fun z hz => ho z (List.mem_of_mem_take hz)
          have hlr := ho r (List.mem_of_getElem? hi)
          have hmul : (rs.take i).length * 100 ≤ 10000 := by omega
          have hsn : deedsD 0 (rs.take (i + 1)) = deedsD 0 (rs.take i) ++ r.ws.map (fun w => D.tup [.int ((i : Nat) : Int), .str w]) := by
            rw [List.take_succ, hi]
            show deedsD 0 (rs.take i ++ [r]) = _
            rw [deedsD_snoc, hin, Nat.zero_add]
          walk_at "pd"
          unfold lcd1
          unfold Rw.d rowD
          walk_at "pd"
          refine ⟨fun j acc' μ'' => acc' = deedsD 0 (rs.take i) ++ (r.ws.take j).map (fun w => D.tup [.int ((i : Nat) : Int), .str w]) ∧ μ'' = (p, .ins (He.ga K "Store") dx ["rows"] [.tup (rwDs (He.ga K "Row") rs)]) :: μr, ⟨by rw [List.take_zero, List.map_nil, List.append_nil], rfl⟩, ?_, ?_, ?_⟩
          · rintro j acc' μ'' hj ⟨rfl, rfl⟩
            refine ⟨trivial, ?_⟩
            rw [List.length_append, List.length_map, List.length_take]; omega
          · rintro j d1 acc' μ'' hd1 ⟨rfl, rfl⟩
            rw [List.getElem?_map] at hd1
            cases hr2 : r.ws[j]? with
            | none => rw [hr2] at hd1; cases hd1
            | some w0 =>
              rw [hr2] at hd1
              cases hd1
              walk_at "pd"
              refine ⟨?_, rfl⟩
              rw [List.take_succ, hr2, List.map_append, List.append_assoc]; rfl
          · rintro acc' μ'' ⟨rfl, rfl⟩
            refine ⟨?_, rfl⟩
            rw [hsn, List.length_map, List.take_length]
      · rintro acc μ' ⟨rfl, rfl⟩
        rw [enumD_len, rwDs_len, List.take_length]
        walk_at "pd"
        exact hQ _ rfl
end
end
section
variable {P : Program} {w : World} {K : PySem.W.Frag} {mg : Str → Option Value} {base : Heap}
/-! ### the class Store -/
def spStoreC (K : PySem.W.Frag) : SpD := fun ds μ Q E => ∃ x o, ds = [x] ∧ StAsk K μ x o ∧
  (o = none → ∀ p dx, E (.ref (He.ga K "InvalidStore")) ["word"] [.str "rows"] ((p, .ins (He.ga K "Store") dx [] []) :: μ)) ∧ (∀ rs, o = some rs → Q (storeD K rs) μ)
theorem storeI_C {K : PySem.W.Frag} (ds : List D) (μ : Mu) (Q : D → Mu → Prop) (E : Value → List Str → List D → Mu → Prop) (h : spStoreC K ds μ Q E) (p dx : Addr) : spStoreI K (.ref p :: ds) ((p, .ins (He.ga K "Store") dx [] []) :: μ) (Frz Q p (He.ga K "Store") dx) E := by
  obtain ⟨x, o, rfl, h1, hE, hQ⟩ := h
  exact ⟨p, dx, μ, x, o, rfl, rfl, h1, fun h => hE h p dx, fun rs h => ⟨rfl, _, _, [], μ, rfl, hQ rs h⟩⟩
theorem StAsk.nilT {K : PySem.W.Frag} {μ : Mu} : StAsk K μ (.tup []) (some []) := .good [] (.tup []) (by decide) fun _ h => (List.not_mem_nil h).elim
section
theorem cd_Store_init (T : T0 w K mg) (n j : Nat) (hn : n + (1 - j) = 2) (dds : List D) (hdd : DfD K dds ((dStore_init.dvs K).drop j))
    (h : ∀ (T : Addr) (kV doc pm : Value) (an : Option Addr) (cdv ct : Value) (us its : List Value), us.length = n → its.length = 1 →
      ∃ k, bindArgs (PySem.W.fnOf "__init__" "Store.__init__" (defArgs sStore_init) (defBody sStore_init) (defScope sStore_init) (.ref T) kV doc pm an cdv ct) ⟨us, []⟩ = seqItems? (.ref T) >>= k ∧ k (some its.toArray) = pure ((["self", "rows"] : List Str).zip (us ++ its.drop j))) :
    CallD P w K mg base 3 (He.ma K (He.ga K "Store") "__init__") 2 dds (spStoreI K) := by
  obtain ⟨fd, F⟩ := f_Store_init T
  exact CallD.mkD F (fnd_Store_init T F) n j (by intro h; cases h) hn dds hdd h
theorem mk_Store_1 (T : T0 w K mg) : MakeD P w K mg base 3 (He.ga K "Store") 1 [] (spStoreC K) :=
  ⟨_, _, k_Store T, cd_Store_init T 2 1 rfl [] DfD.nil (fun _ _ _ _ _ _ _ us its h1 h2 => match us, its, h1, h2 with | [_, _], [_], _, _ => ⟨_, rfl, rfl⟩), storeI_C⟩
theorem mk_Store_0 (T : T0 w K mg) : MakeD P w K mg base 3 (He.ga K "Store") 1 [.tup []] (spStoreC K) :=
  ⟨_, _, k_Store T, cd_Store_init T 1 0 rfl [.tup []] (fun F => Dps.cons (dpt (tupAB_ok (t_Store_init_0 T) F) Dps.nil) Dps.nil) (fun _ _ _ _ _ _ _ us its h1 h2 => match us, its, h1, h2 with | [_], [_], _, _ => ⟨_, rfl, rfl⟩), storeI_C⟩
end
def spNeed (K : PySem.W.Frag) : SpD := fun ds μ Q E => ∃ rs, ∃ i : Int, ds = [storeD K rs, .int i] ∧ (0 ≤ i ∧ i < rs.length → Q .non μ) ∧ (¬ (0 ≤ i ∧ i < rs.length) → E (.ref (He.ga K "NoRow")) ["at"] [.int i] μ)
section
abbrev N_Store_need : List Str := ["self", "at"]
theorem sc_Store_need : FnScope N_Store_need ["self", "at"] (defScope sStore_need) := ⟨rfl, rfl, rfl, by decide +kernel, rfl, by decide +kernel, by decide +kernel⟩
theorem v_Store_need_self : Nm N_Store_need (defScope sStore_need) 0 "self" := ⟨rfl, by decide +kernel, by decide +kernel, by decide +kernel⟩
theorem v_Store_need_at : Nm N_Store_need (defScope sStore_need) 1 "at" := ⟨rfl, by decide +kernel, by decide +kernel, by decide +kernel⟩
theorem gl_Store_need_NoRow : (defScope sStore_need).names.lookup ("NoRow" : Str) = some .globalImplicit := by decide +kernel
theorem gl_Store_need_len : (defScope sStore_need).names.lookup ("len" : Str) = some .globalImplicit := by decide +kernel
local macro_rules | `(tactic| walk_at "pd.nm") => `(tactic| first
  | ((with_reducible show ed _ (Expr.Name "self" _) _ _ _); first | refine ed_nm v_Store_need_self rfl ?_ | refine ed_nmB (sc := defScope sStore_need) v_Store_need_self rfl ?_)
  | ((with_reducible show ed _ (Expr.Name "at" _) _ _ _); first | refine ed_nm v_Store_need_at rfl ?_ | refine ed_nmB (sc := defScope sStore_need) v_Store_need_at rfl ?_)
  | ((with_reducible show ed _ (Expr.Name "NoRow" _) _ _ _); refine ed_gref (g_NoRow (by assumption)) ?_ (hg := by first | exact gl_of gl_Store_need_NoRow))
  | fail)
local macro_rules | `(tactic| walk_at "pd.call") => `(tactic| first
  | ((with_reducible show ed _ (Expr.Call (Expr.Name "len" _) (_ :: _) _ _) _ _ _); refine ed_callB (id := "len") (b_len (by assumption)) bb_len ?_ (hg := by first | exact gl_of gl_Store_need_len))
  | fail)
local macro_rules | `(tactic| walk_at "pd.it") => `(tactic| first
  | ((with_reducible show eid _ _ _ _ _ _); refine eid_of ?_)
  | fail)
local macro_rules | `(tactic| walk_at "pd.fld") => `(tactic| first
  | ((with_reducible show ed _ (Expr.Attribute _ "rows" _) _ _ _); first | (refine ed_fld (c_Course (by assumption)) (n_Course_rows (by assumption)) ?_; walk_at "pdF"; walk_at "pd.fldX") | (refine ed_fld (c_Store (by assumption)) (n_Store_rows (by assumption)) ?_; walk_at "pdF"; walk_at "pd.fldX"))
  | fail)
local macro_rules | `(tactic| walk_at "pd.raise") => `(tactic| first
  | ((with_reducible show sd _ (Stmt.Raise (some (Expr.Call (Expr.Name "NoRow" _) _ _ _)) none _) _ _ _); refine sd_raiseOwn rfl (x_NoRow (by assumption)) (by assumption) (by decide) (g_NoRow (by assumption)) ?_ (hg := by first | exact gl_of gl_Store_need_NoRow))
  | fail)
theorem ok_Store_need (T : T0 w K mg) : CallD P w K mg base 3 (He.ma K (He.ga K "Store") "need") 2 [] (spNeed K) := by
  obtain ⟨fd, F⟩ := f_Store_need T
  refine CallD.mk0 (ps := ["self", "at"]) F (fun _ _ _ _ _ _ us hl => match us, hl with | [_, _], _ => rfl) (fnD_of F sc_Store_need fun cdv A outer s H F0 μ ds Qd Ed hr hl h => ?_)
  obtain ⟨rs, i, rfl, hQ, hE⟩ := h
  show sds _ _ [some (storeD K rs), some (.int i)] _ _
  refine sds_cons ?_
  unfold storeD
  walk_at "pd"
  refine ifd (fun h0 => ?_) (fun h0 => ?_)
  · walk_at "pd"
    rw [rwDs_len]
    refine ifn (fun h1 => ?_) (fun h1 => ?_)
    · walk_at "pd"
      exact hE fun z => h1 z.2
    · walk_at "pd"
      exact hQ ⟨h0, h1⟩
  · walk_at "pd"
    exact hE fun z => h0 z.1
end
def spStoreLen (K : PySem.W.Frag) : SpD := fun ds μ Q _ => ∃ rs, ds = [storeD K rs] ∧ Q (.int (rs.length : Nat)) μ
section
abbrev N_Store_len : List Str := ["self"]
theorem sc_Store_len : FnScope N_Store_len ["self"] (defScope sStore_len) := ⟨rfl, rfl, rfl, by decide +kernel, rfl, by decide +kernel, by decide +kernel⟩
theorem v_Store_len_self : Nm N_Store_len (defScope sStore_len) 0 "self" := ⟨rfl, by decide +kernel, by decide +kernel, by decide +kernel⟩
theorem gl_Store_len_len : (defScope sStore_len).names.lookup ("len" : Str) = some .globalImplicit := by decide +kernel
local macro_rules | `(tactic| walk_at "pd.nm") => `(tactic| first
  | ((with_reducible show ed _ (Expr.Name "self" _) _ _ _); first | refine ed_nm v_Store_len_self rfl ?_ | refine ed_nmB (sc := defScope sStore_len) v_Store_len_self rfl ?_)
  | fail)
local macro_rules | `(tactic| walk_at "pd.call") => `(tactic| first
  | ((with_reducible show ed _ (Expr.Call (Expr.Name "len" _) (_ :: _) _ _) _ _ _); refine ed_callB (id := "len") (b_len (by assumption)) bb_len ?_ (hg := by first | exact gl_of gl_Store_len_len))
  | fail)
local macro_rules | `(tactic| walk_at "pd.it") => `(tactic| first
  | ((with_reducible show eid _ _ _ _ _ _); refine eid_of ?_)
  | fail)
local macro_rules | `(tactic| walk_at "pd.fld") => `(tactic| first
  | ((with_reducible show ed _ (Expr.Attribute _ "rows" _) _ _ _); first | (refine ed_fld (c_Course (by assumption)) (n_Course_rows (by assumption)) ?_; walk_at "pdF"; walk_at "pd.fldX") | (refine ed_fld (c_Store (by assumption)) (n_Store_rows (by assumption)) ?_; walk_at "pdF"; walk_at "pd.fldX"))
  | fail)
theorem ok_Store_len (T : T0 w K mg) : CallD P w K mg base 1 (He.ma K (He.ga K "Store") "__len__") 1 [] (spStoreLen K) := by
  obtain ⟨fd, F⟩ := f_Store_len T
  refine CallD.mk0 (ps := ["self"]) F (fun _ _ _ _ _ _ us hl => match us, hl with | [_], _ => rfl) (fnD_of F sc_Store_len fun cdv A outer s H F0 μ ds Qd Ed hr hl h => ?_)
  obtain ⟨rs, rfl, q⟩ := h
  show sds _ _ [some (storeD K rs)] _ _
  refine sds_cons ?_
  unfold storeD
  walk_at "pd"
  rw [rwDs_len]
  exact q
end
section
abbrev N_Store_getitem : List Str := ["self", "at"]
theorem v_Store_getitem_self : Nm N_Store_getitem (defScope sStore_getitem) 0 "self" := ⟨rfl, by decide +kernel, by decide +kernel, by decide +kernel⟩
theorem v_Store_getitem_at : Nm N_Store_getitem (defScope sStore_getitem) 1 "at" := ⟨rfl, by decide +kernel, by decide +kernel, by decide +kernel⟩
local macro_rules | `(tactic| walk_at "pd.nm") => `(tactic| first
  | ((with_reducible show ed _ (Expr.Name "self" _) _ _ _); first | refine ed_nm v_Store_getitem_self rfl ?_ | refine ed_nmB (sc := defScope sStore_getitem) v_Store_getitem_self rfl ?_)
  | ((with_reducible show ed _ (Expr.Name "at" _) _ _ _); first | refine ed_nm v_Store_getitem_at rfl ?_ | refine ed_nmB (sc := defScope sStore_getitem) v_Store_getitem_at rfl ?_)
  | fail)
local macro_rules | `(tactic| walk_at "pd.call") => `(tactic| first
  | ((with_reducible show ed _ (Expr.Call (Expr.Attribute _ "need" _) (_ :: _) _ _) _ _ _); refine ed_methC (c_Store (by assumption)) (m_Store_need (by assumption)) ((ok_Store_need (by assumption)).at_ _) (by assumption) (by decide) ?_)
  | fail)
local macro_rules | `(tactic| walk_at "pd.it") => `(tactic| first
  | ((with_reducible show eid _ _ _ _ _ _); refine eid_of ?_)
  | fail)
local macro_rules | `(tactic| walk_at "pd.fld") => `(tactic| first
  | ((with_reducible show ed _ (Expr.Attribute _ "rows" _) _ _ _); first | (refine ed_fld (c_Course (by assumption)) (n_Course_rows (by assumption)) ?_; walk_at "pdF"; walk_at "pd.fldX") | (refine ed_fld (c_Store (by assumption)) (n_Store_rows (by assumption)) ?_; walk_at "pdF"; walk_at "pd.fldX"))
  | fail)
end
theorem Rw.txt_len {r : Rw} (h : r.ok) : r.txt.length ≤ 30000 := by
  have R := h.txt
  have h3 := rowWords_len r.k r.ts r.ws r.a
  have e1 : (Str.ofString " ").length = 1 := by decide
  have each : ∀ y ∈ rowWords r.k r.ts r.ws r.a, y.length ≤ 2700 := by
    intro y hy
    have e5 : (Str.ofString " and ").length = 5 := by decide
    have e6 : (Str.ofString " then ").length = 6 := by decide
    have j1 := len_join " and " r.ts
    have j2 := len_join " then " r.ws
    have s1 := sum_le R.tl
    have s2 := sum_le R.wl
    have n1 := h.tn
    have n2 := h.wn
    have hk := R.kl
    rw [e5] at j1
    rw [e6] at j2
    have y1 : (yesNo r.a).length ≤ 3 := by cases r.a <;> decide
    have w1 : (Str.ofString "if").length = 2 := by decide
    have w2 : (Str.ofString "do").length = 2 := by decide
    have k1 : (ifPart r.ts) = [] ∨ ifPart r.ts = [Str.ofString "if", Txt.join " and " r.ts] := by unfold ifPart; split; exact .inl rfl; exact .inr rfl
    have k2 : (doPart r.ws) = [] ∨ doPart r.ws = [Str.ofString "do", Txt.join " then " r.ws] := by unfold doPart; split; exact .inl rfl; exact .inr rfl
    unfold rowWords at hy
    simp only [List.mem_append, List.mem_singleton] at hy
    rcases hy with ((hy | hy) | hy) | hy
    · rw [hy]; omega
    · rcases k1 with k1 | k1
      · rw [k1] at hy; exact (List.not_mem_nil hy).elim
      · rw [k1] at hy
        simp only [List.mem_cons, List.mem_nil_iff, or_false] at hy
        rcases hy with rfl | rfl <;> omega
    · rcases k2 with k2 | k2
      · rw [k2] at hy; exact (List.not_mem_nil hy).elim
      · rw [k2] at hy
        simp only [List.mem_cons, List.mem_nil_iff, or_false] at hy
        rcases hy with rfl | rfl <;> omega
    · rw [hy]; omega
  have h1 := len_join " " (rowWords r.k r.ts r.ws r.a)
  have h2 := sum_le each
  rw [e1] at h1
  unfold Rw.txt rowText
  have : (rowWords r.k r.ts r.ws r.a).length * 2700 ≤ 6 * 2700 := Nat.mul_le_mul_right _ h3
  omega
def storeTxt (rs : List Rw) : Str := Txt.join "\n" (rs.map Rw.txt)
def spStoreStr (K : PySem.W.Frag) : SpD := fun ds μ Q _ => ∃ rs, ds = [storeD K rs] ∧ rs.length ≤ 100 ∧ (∀ r ∈ rs, r.ok) ∧ Q (.str (storeTxt rs)) μ
section
abbrev N_Store_str : List Str := ["self", "row"]
theorem sc_Store_str : FnScope N_Store_str ["self"] (defScope sStore_str) := ⟨rfl, rfl, rfl, by decide +kernel, rfl, by decide +kernel, by decide +kernel⟩
theorem v_Store_str_self : Nm N_Store_str (defScope sStore_str) 0 "self" := ⟨rfl, by decide +kernel, by decide +kernel, by decide +kernel⟩
theorem w_Store_str_row : NmB N_Store_str 1 "row" := ⟨rfl, by decide +kernel, by decide +kernel⟩
local macro_rules | `(tactic| walk_at "pd.nm") => `(tactic| first
  | ((with_reducible show ed _ (Expr.Name "self" _) _ _ _); first | refine ed_nm v_Store_str_self rfl ?_ | refine ed_nmB (sc := defScope sStore_str) v_Store_str_self rfl ?_)
  | ((with_reducible show ed _ (Expr.Name "row" _) _ _ _); refine ed_nmC (sc := defScope sStore_str) w_Store_str_row rfl ?_)
  | ((with_reducible show ed _ (Expr.Name "str" _) _ _ _); refine ed_ty (n := "str") (b_str (by assumption)) bb_str ?_ (hg := by first | exact glB_of (sc := defScope sStore_str)))
  | fail)
local macro_rules | `(tactic| walk_at "pd.g") => `(tactic| first
  | ((with_reducible show gv _ (Expr.Name "row" _) _ _ _ _ _); refine gv_nmC (sc := defScope sStore_str) w_Store_str_row sc_Store_str.nd (by decide) ?_)
  | fail)
local macro_rules | `(tactic| walk_at "pd.call") => `(tactic| first
  | ((with_reducible show ed _ (Expr.Call (Expr.Attribute _ "join" _) (_ :: _) _ _) _ _ _); with_reducible refine ed_bm PySem.F.plainAttrs_str PySem.F.slot_str_join PySem.F.type_str_join ?_)
  | ((with_reducible show ed _ (Expr.Call (Expr.Name "str" _) (_ :: _) _ _) _ _ _); refine ed_callTy (T := "str") (b_str (by assumption)) bb_str ?_ (hg := by first | exact glB_of (sc := defScope sStore_str)))
  | fail)
local macro_rules | `(tactic| walk_at "pd.lc") => `(tactic| first
  | ((with_reducible show ed _ (Expr.ListComp _ [_] _ _) _ _ _); refine ed_lc (own := [("row", 1)]) [("row", 1)] rfl rfl sc_Store_str.nd (blkOk_by (N := N_Store_str) (sc := defScope sStore_str) (by decide +kernel)) ?_)
  | fail)
local macro_rules | `(tactic| walk_at "pd.it") => `(tactic| first
  | ((with_reducible show eid _ _ _ _ _ _); refine eid_of ?_)
  | fail)
local macro_rules | `(tactic| walk_at "pd.fld") => `(tactic| first
  | ((with_reducible show ed _ (Expr.Attribute _ "rows" _) _ _ _); first | (refine ed_fld (c_Course (by assumption)) (n_Course_rows (by assumption)) ?_; walk_at "pdF"; walk_at "pd.fldX") | (refine ed_fld (c_Store (by assumption)) (n_Store_rows (by assumption)) ?_; walk_at "pdF"; walk_at "pd.fldX"))
  | fail)
theorem ok_Store_str (T : T0 w K mg) : CallD P w K mg base 4 (He.ma K (He.ga K "Store") "__str__") 1 [] (spStoreStr K) := by
  obtain ⟨fd, F⟩ := f_Store_str T
  refine CallD.mk0 (ps := ["self"]) F (fun _ _ _ _ _ _ us hl => match us, hl with | [_], _ => rfl) (fnD_of F sc_Store_str fun cdv A outer s H F0 μ ds Qd Ed hr hl h => ?_)
  obtain ⟨rs, rfl, hn, ho, q⟩ := h
  show sds _ _ [some (storeD K rs), none] _ _
  refine sds_cons ?_
  unfold storeD
  walk_at "pd"
  refine lcd_ix (fun μ' => μ' = μ) (rs.map fun r => D.str r.txt) ?_
  walk_at "pd"
  refine ⟨by rw [rwDs_len]; omega, by rw [List.length_map, rwDs_len], rfl, fun _ _ => trivial, ?_, ?_⟩
  · rintro i d r μ' hd hr2 rfl
    rw [rwDs_get] at hd
    rw [List.getElem?_map] at hr2
    cases hi : rs[i]? with
    | none => rw [hi] at hd; cases hd
    | some rw0 =>
      rw [hi] at hd hr2
      cases hd
      cases hr2
      walk_at "pd"
      refine ⟨rfl, ?_⟩
      walk_at "pd"
      unfold Rw.d
      refine cld_strOwn (strOwn_of (m_Row_str T)) rfl (ok_Row_str T) (by assumption) (by decide) ⟨_, _, _, _, rfl, (ho rw0 (List.mem_of_getElem? hi)).txt, ?_⟩
      exact ⟨_, rfl, rfl, rfl⟩
  · rintro μ' rfl
    walk_at "pd"
    have e0 : (Str.ofString "\n").length = 1 := by decide
    refine mtd_joinS (rs.map Rw.txt) (.lst _) (by rw [List.map_map]; rfl) ?_ q
    have h2 := sum_le (ys := rs.map Rw.txt) (n := 30000) fun y hy => by
      obtain ⟨r, hr, rfl⟩ := List.mem_map.mp hy
      exact Rw.txt_len (ho r hr)
    rw [List.length_map] at h2 ⊢
    rw [e0]
    have : rs.length * 30000 ≤ 100 * 30000 := Nat.mul_le_mul_right _ hn
    omega
end
def spStoreEq (K : PySem.W.Frag) : SpD := fun ds μ Q _ => ∃ rs y, ds = [storeD K rs, y] ∧ rs.length ≤ 100 ∧ (∀ r ∈ rs, r.ok) ∧
  ((∃ rs', y = storeD K rs' ∧ rs'.length ≤ 100 ∧ (∀ r ∈ rs', r.ok) ∧ Q (.bl (decide (storeTxt rs = storeTxt rs'))) μ) ∨ (∃ t, TyQ K μ y t ∧ PySem.W.kitOne K t (.ref (He.ga K "Store")) = some false ∧ Q (.bl false) μ))
section
abbrev N_Store_eq : List Str := ["self", "other"]
theorem sc_Store_eq : FnScope N_Store_eq ["self", "other"] (defScope sStore_eq) := ⟨rfl, rfl, rfl, by decide +kernel, rfl, by decide +kernel, by decide +kernel⟩
theorem v_Store_eq_self : Nm N_Store_eq (defScope sStore_eq) 0 "self" := ⟨rfl, by decide +kernel, by decide +kernel, by decide +kernel⟩
theorem v_Store_eq_other : Nm N_Store_eq (defScope sStore_eq) 1 "other" := ⟨rfl, by decide +kernel, by decide +kernel, by decide +kernel⟩
theorem gl_Store_eq_Store : (defScope sStore_eq).names.lookup ("Store" : Str) = some .globalImplicit := by decide +kernel
theorem gl_Store_eq_isinstance : (defScope sStore_eq).names.lookup ("isinstance" : Str) = some .globalImplicit := by decide +kernel
theorem gl_Store_eq_str : (defScope sStore_eq).names.lookup ("str" : Str) = some .globalImplicit := by decide +kernel
local macro_rules | `(tactic| walk_at "pd.nm") => `(tactic| first
  | ((with_reducible show ed _ (Expr.Name "self" _) _ _ _); first | refine ed_nm v_Store_eq_self rfl ?_ | refine ed_nmB (sc := defScope sStore_eq) v_Store_eq_self rfl ?_)
  | ((with_reducible show ed _ (Expr.Name "other" _) _ _ _); first | refine ed_nm v_Store_eq_other rfl ?_ | refine ed_nmB (sc := defScope sStore_eq) v_Store_eq_other rfl ?_)
  | ((with_reducible show ed _ (Expr.Name "Store" _) _ _ _); refine ed_gref (g_Store (by assumption)) ?_ (hg := by first | exact gl_of gl_Store_eq_Store))
  | ((with_reducible show ed _ (Expr.Name "str" _) _ _ _); refine ed_ty (n := "str") (b_str (by assumption)) bb_str ?_ (hg := by first | exact gl_of gl_Store_eq_str))
  | fail)
local macro_rules | `(tactic| walk_at "pd.call") => `(tactic| first
  | ((with_reducible show ed _ (Expr.Call (Expr.Name "isinstance" _) (_ :: _) _ _) _ _ _); refine ed_callB (id := "isinstance") (b_isinstance (by assumption)) bb_isinstance ?_ (hg := by first | exact gl_of gl_Store_eq_isinstance))
  | ((with_reducible show ed _ (Expr.Call (Expr.Name "str" _) (_ :: _) _ _) _ _ _); refine ed_callTy (T := "str") (b_str (by assumption)) bb_str ?_ (hg := by first | exact gl_of gl_Store_eq_str))
  | fail)
local macro_rules | `(tactic| walk_at "pd.it") => `(tactic| first
  | ((with_reducible show eid _ _ _ _ _ _); refine eid_of ?_)
  | fail)
theorem ok_Store_eq (T : T0 w K mg) : CallD P w K mg base 7 (He.ma K (He.ga K "Store") "__eq__") 2 [] (spStoreEq K) := by
  obtain ⟨fd, F⟩ := f_Store_eq T
  refine CallD.mk0 (ps := ["self", "other"]) F (fun _ _ _ _ _ _ us hl => match us, hl with | [_, _], _ => rfl) (fnD_of F sc_Store_eq fun cdv A outer s H F0 μ ds Qd Ed hr hl h => ?_)
  obtain ⟨rs, y, rfl, hn, ho, h⟩ := h
  have hu := hr.units
  show sds _ _ [some (storeD K rs), some y] _ _
  refine sds_cons ?_
  rcases h with ⟨rs', rfl, hn', ho', q⟩ | ⟨t, ht, hk, q⟩
  · walk_at "pd"
    refine cld_isi (.obj (ct_Store T) _ _) rfl kit_same ?_
    walk_at "pd"
    refine cld_strOwn (strOwn_of (m_Store_str T)) rfl (ok_Store_str T) hr (by decide) ⟨rs, rfl, hn, ho, _, rfl, ?_⟩
    walk_at "pd"
    refine cld_strOwn (strOwn_of (m_Store_str T)) rfl (ok_Store_str T) hr (by decide) ⟨rs', rfl, hn', ho', _, rfl, ?_⟩
    walk_at "pd"
    exact q
  · walk_at "pd"
    refine cld_isi ht rfl hk ?_
    walk_at "pd"
    exact q
end
end
section
variable {P : Program} {w : World} {K : PySem.W.Frag} {mg : Str → Option Value} {base : Heap}
/-! ### a row read, any text -/
theorem xa_InvalidText (T : T0 w K mg) : ExcAny P w K mg base (He.ga K "InvalidText") "at" := by
  obtain ⟨fd, F⟩ := f_InvalidText_init T
  exact ⟨xn_InvalidText T, _, _, _, _, _, fd, _, basVE, xg_InvalidText T, xi_InvalidText T, xt_InvalidText T, FunD.bindsN (ps := ["self", "at"]) F (fun _ _ _ _ _ _ us hl => match us, hl with | [_, _], _ => rfl), fn_oexX basVE F sc_InvalidText_init v_InvalidText_init_0 v_InvalidText_init_1⟩
abbrev notDo (x : Str) : Bool := decide (x ≠ Str.ofString "do")
def readW (k : Str) (m : List Str) (l : Str) : Option Rw :=
  if l ∈ (["yes", "no"] : List Str) then
    if m.takeWhile notDo ≠ [] ∧ (m.takeWhile notDo).headD "" ≠ Str.ofString "if" then none
    else if rowBad (.str k) (.lst ((if m.takeWhile notDo = [] then [] else toldB ((m.takeWhile notDo).drop 1) "and").map .str)) (.lst ((if Str.ofString "do" ∈ m then toldB ((m.dropWhile notDo).drop 1) "then" else []).map .str)) (.bl (decide (l = "yes"))) = none
      then some ⟨k, if m.takeWhile notDo = [] then [] else toldB ((m.takeWhile notDo).drop 1) "and", if Str.ofString "do" ∈ m then toldB ((m.dropWhile notDo).drop 1) "then" else [], decide (l = "yes")⟩ else none
  else none
def readP (t : Str) : Option Rw := match Txt.split t " " with
  | k :: x :: r => readW k ((x :: r).dropLast) ((x :: r).getLastD "")
  | _ => none
theorem do_split {m : List Str} (h : Str.ofString "do" ∈ m) : ∃ r, m = m.takeWhile notDo ++ Str.ofString "do" :: r ∧ m.dropWhile notDo = Str.ofString "do" :: r ∧ ∀ x ∈ m.takeWhile notDo, x ≠ Str.ofString "do" := by
  have hn : ∀ x ∈ m.takeWhile notDo, x ≠ Str.ofString "do" := fun x hx => of_decide_eq_true (List.all_eq_true.mp (List.all_takeWhile) x hx)
  cases e : m.dropWhile notDo with
  | nil =>
    have e2 := List.takeWhile_append_dropWhile (p := notDo) (l := m)
    rw [e, List.append_nil] at e2
    rw [← e2] at h
    exact absurd rfl (hn _ h)
  | cons x r =>
    have hx : notDo x = false := by
      have h2 := List.head?_dropWhile_not notDo m
      rw [e] at h2
      simpa using h2
    have hx : x = Str.ofString "do" := by simpa using hx
    subst hx
    exact ⟨r, by rw [← e, List.takeWhile_append_dropWhile], rfl, hn⟩
theorem do_none {m : List Str} (h : Str.ofString "do" ∉ m) : m.takeWhile notDo = m := by
  have : ∀ x ∈ m, notDo x = true := fun x hx => decide_eq_true fun e => h (e ▸ hx)
  clear h
  induction m with
  | nil => rfl
  | cons x m ih => rw [List.takeWhile_cons, if_pos (this x List.mem_cons_self), ih fun y hy => this y (List.mem_cons_of_mem _ hy)]
theorem told_each {ws : List Str} {sign : Str} {n : Nat} (h : wgtB ws ≤ n) : ∀ u ∈ toldB ws sign, u.length ≤ n := by
  intro u hu
  unfold toldB at hu
  obtain ⟨p, hp, rfl⟩ := List.mem_map.mp hu
  have h1 := foldB_part sign n ws ([], []) (fun _ h => (List.not_mem_nil h).elim) (by show 0 + wgtB ws ≤ n; omega) p hp
  have h2 := len_join (Str.ofString " ") p
  have e : (Str.ofString " ").length = 1 := by decide
  rw [e] at h2
  unfold wgtB at h1
  have h3 : (Txt.join " " p).length ≤ (p.map (·.length)).sum + p.length := by
    have h2 : (Txt.join (Str.ofString " ") p).length ≤ _ := h2
    omega
  omega
theorem wgt_sub {a b : List Str} (h : a.Sublist b) : wgtB a ≤ wgtB b := by
  induction h with
  | slnil => exact Nat.le_refl _
  | cons x _ ih => rw [wgtB_cons]; omega
  | cons_cons x _ ih => rw [wgtB_cons, wgtB_cons]; omega
theorem wgt_mem {w : Str} {l : List Str} (h : w ∈ l) : w.length ≤ wgtB l := by
  have := wgt_sub (List.singleton_sublist.mpr h)
  rw [wgtB_cons] at this
  omega
theorem wgt_len (l : List Str) : l.length ≤ wgtB l := by unfold wgtB; omega
def spReadX (K : PySem.W.Frag) : SpD := fun ds μ Q E => ∃ t, ds = [.ref (He.ga K "Row"), .str t] ∧ t.length ≤ 900 ∧ (readP t = none → ∀ G, E (.ref (He.ga K "InvalidText")) ["at"] [.int 0] (G ++ μ)) ∧ (∀ r, readP t = some r → Q (r.d (He.ga K "Row")) μ)
theorem cutD_mid {α : D} {xs : List D} {b : D} : PD.cutD (α :: (xs ++ [b])) (some 1) (some (-1)) = xs := by
  unfold PD.cutD HT.sIx
  simp
  have e : (-1 + ((xs.length : Int) + 1 + 1)).toNat - 1 = xs.length := by omega
  rw [e, List.take_left]
theorem atI_lastc (α : D) (xs : List D) (b : D) : atI (α :: (xs ++ [b])) (-1) = some b := by
  have := atI_last (α :: xs) b
  exact this
section
abbrev N_Row_read : List Str := ["cls", "text", "words", "middle", "tests", "deeds"]
theorem sc_Row_read : FnScope N_Row_read ["cls", "text"] (defScope sRow_read) := ⟨rfl, rfl, rfl, by decide +kernel, rfl, by decide +kernel, by decide +kernel⟩
theorem v_Row_read_cls : Nm N_Row_read (defScope sRow_read) 0 "cls" := ⟨rfl, by decide +kernel, by decide +kernel, by decide +kernel⟩
theorem v_Row_read_text : Nm N_Row_read (defScope sRow_read) 1 "text" := ⟨rfl, by decide +kernel, by decide +kernel, by decide +kernel⟩
theorem v_Row_read_words : Nm N_Row_read (defScope sRow_read) 2 "words" := ⟨rfl, by decide +kernel, by decide +kernel, by decide +kernel⟩
theorem v_Row_read_middle : Nm N_Row_read (defScope sRow_read) 3 "middle" := ⟨rfl, by decide +kernel, by decide +kernel, by decide +kernel⟩
theorem v_Row_read_tests : Nm N_Row_read (defScope sRow_read) 4 "tests" := ⟨rfl, by decide +kernel, by decide +kernel, by decide +kernel⟩
theorem v_Row_read_deeds : Nm N_Row_read (defScope sRow_read) 5 "deeds" := ⟨rfl, by decide +kernel, by decide +kernel, by decide +kernel⟩
theorem gl_Row_read_InvalidRow : (defScope sRow_read).names.lookup ("InvalidRow" : Str) = some .globalImplicit := by decide +kernel
theorem gl_Row_read_InvalidText : (defScope sRow_read).names.lookup ("InvalidText" : Str) = some .globalImplicit := by decide +kernel
theorem gl_Row_read_len : (defScope sRow_read).names.lookup ("len" : Str) = some .globalImplicit := by decide +kernel
theorem gl_Row_read_told_between : (defScope sRow_read).names.lookup ("told_between" : Str) = some .globalImplicit := by decide +kernel
local macro_rules | `(tactic| walk_at "pd.nm") => `(tactic| first
  | ((with_reducible show ed _ (Expr.Name "cls" _) _ _ _); first | refine ed_nm v_Row_read_cls rfl ?_ | refine ed_nmB (sc := defScope sRow_read) v_Row_read_cls rfl ?_)
  | ((with_reducible show ed _ (Expr.Name "text" _) _ _ _); first | refine ed_nm v_Row_read_text rfl ?_ | refine ed_nmB (sc := defScope sRow_read) v_Row_read_text rfl ?_)
  | ((with_reducible show ed _ (Expr.Name "words" _) _ _ _); first | refine ed_nm v_Row_read_words rfl ?_ | refine ed_nmB (sc := defScope sRow_read) v_Row_read_words rfl ?_)
  | ((with_reducible show ed _ (Expr.Name "middle" _) _ _ _); first | refine ed_nm v_Row_read_middle rfl ?_ | refine ed_nmB (sc := defScope sRow_read) v_Row_read_middle rfl ?_)
  | ((with_reducible show ed _ (Expr.Name "tests" _) _ _ _); first | refine ed_nm v_Row_read_tests rfl ?_ | refine ed_nmB (sc := defScope sRow_read) v_Row_read_tests rfl ?_)
  | ((with_reducible show ed _ (Expr.Name "deeds" _) _ _ _); first | refine ed_nm v_Row_read_deeds rfl ?_ | refine ed_nmB (sc := defScope sRow_read) v_Row_read_deeds rfl ?_)
  | ((with_reducible show ed _ (Expr.Name "InvalidRow" _) _ _ _); refine ed_gref (g_InvalidRow (by assumption)) ?_ (hg := by first | exact gl_of gl_Row_read_InvalidRow))
  | ((with_reducible show ed _ (Expr.Name "InvalidText" _) _ _ _); refine ed_gref (g_InvalidText (by assumption)) ?_ (hg := by first | exact gl_of gl_Row_read_InvalidText))
  | fail)
local macro_rules | `(tactic| walk_at "pd.set") => `(tactic| first
  | ((with_reducible show sd _ (Stmt.Assign [Expr.Name "words" _] _ _) _ _ _); refine sd_nm v_Row_read_words sc_Row_read.nd ?_)
  | ((with_reducible show sd _ (Stmt.Assign [Expr.Name "middle" _] _ _) _ _ _); refine sd_nm v_Row_read_middle sc_Row_read.nd ?_)
  | ((with_reducible show sd _ (Stmt.Assign [Expr.Name "tests" _] _ _) _ _ _); refine sd_nm v_Row_read_tests sc_Row_read.nd ?_)
  | ((with_reducible show sd _ (Stmt.Assign [Expr.Name "deeds" _] _ _) _ _ _); refine sd_nm v_Row_read_deeds sc_Row_read.nd ?_)
  | fail)
local macro_rules | `(tactic| walk_at "pd.g") => `(tactic| first
  | ((with_reducible show gd _ (Expr.Name "words" _) _ _ _ _); refine gd_nm v_Row_read_words sc_Row_read.nd ?_)
  | ((with_reducible show gd _ (Expr.Name "middle" _) _ _ _ _); refine gd_nm v_Row_read_middle sc_Row_read.nd ?_)
  | ((with_reducible show gd _ (Expr.Name "tests" _) _ _ _ _); refine gd_nm v_Row_read_tests sc_Row_read.nd ?_)
  | ((with_reducible show gd _ (Expr.Name "deeds" _) _ _ _ _); refine gd_nm v_Row_read_deeds sc_Row_read.nd ?_)
  | fail)
local macro_rules | `(tactic| walk_at "pd.call") => `(tactic| first
  | ((with_reducible show ed _ (Expr.Call (Expr.Name "cls" _) (_ :: _) _ _) _ _ _); refine ed_makeL v_Row_read_cls rfl (mk_Row_4 (by assumption)) (by assumption) (by decide) ?_)
  | ((with_reducible show ed _ (Expr.Call (Expr.Attribute _ "split" _) (_ :: _) _ _) _ _ _); with_reducible refine ed_bm PySem.F.plainAttrs_str PySem.F.slot_str_split PySem.F.type_str_split ?_)
  | ((with_reducible show ed _ (Expr.Call (Expr.Name "told_between" _) (_ :: _) _ _) _ _ _); refine ed_callC ((ok_told_between (by assumption)).at_ _) (by assumption) (by decide) (g_told_between (by assumption)) ?_ (hg := by first | exact gl_of gl_Row_read_told_between))
  | ((with_reducible show ed _ (Expr.Call (Expr.Name "len" _) (_ :: _) _ _) _ _ _); refine ed_callB (id := "len") (b_len (by assumption)) bb_len ?_ (hg := by first | exact gl_of gl_Row_read_len))
  | ((with_reducible show ed _ (Expr.Call (Expr.Attribute _ "index" _) (_ :: _) _ _) _ _ _); with_reducible refine ed_bm PySem.F.plainAttrs_list PySem.F.slot_list_index PySem.F.type_list_index ?_)
  | fail)
local macro_rules | `(tactic| walk_at "pd.it") => `(tactic| first
  | ((with_reducible show eid _ _ _ _ _ _); refine eid_of ?_)
  | fail)
local macro_rules | `(tactic| walk_at "pd.raise") => `(tactic| first
  | ((with_reducible show sd _ (Stmt.Raise (some (Expr.Call (Expr.Name "InvalidText" _) _ _ _)) none _) _ _ _); refine sd_raiseOwn rfl (x_InvalidText (by assumption)) (by assumption) (by decide) (g_InvalidText (by assumption)) ?_ (hg := by first | exact gl_of gl_Row_read_InvalidText))
  | fail)
local macro_rules | `(tactic| walk_at "pd.try") => `(tactic| first
  | ((with_reducible show sd _ (Stmt.Try _ [ExceptHandler.ExceptHandler (some (Expr.Name "InvalidRow" _)) none _ _] _ _ _) _ _ _); refine sd_try_calm (c := .ref (He.ga _ "InvalidRow")) rfl rfl ⟨gl_of gl_Row_read_InvalidRow, by decide +kernel, .inl (g_InvalidRow (by assumption))⟩ ?_)
  | fail)
local macro_rules | `(tactic| walk_at "pd.par") => `(tactic| first
  | ((with_reducible show sd _ (Stmt.Assign [Expr.Tuple [Expr.Name "middle" _, Expr.Name "tests" _, Expr.Name "deeds" _] _ _] (Expr.Tuple [_, _, _] _ _) _) _ _ _); refine sd_par3 rfl sc_Row_read.nd v_Row_read_middle v_Row_read_tests v_Row_read_deeds (by decide +kernel) (by decide +kernel) (by decide +kernel) (by decide) (by decide) (by decide) ?_)
  | fail)
theorem ok_Row_read (T : T0 w K mg) : CallM P w K mg base 6 (He5.wf K (He.ga K "Row") "classmethod" "read") 2 [] (spReadX K) := by
  obtain ⟨fd, F⟩ := f_Row_read T
  refine CallM.mk0 (ps := ["cls", "text"]) F (fun _ _ _ _ _ _ us hl => match us, hl with | [_, _], _ => rfl) (fun b hb => fnD_of F sc_Row_read fun cdv A outer s H F0 μ ds Qd Ed hr hl h => ?_)
  obtain ⟨t, rfl, hlen, hE, hQ⟩ := h
  have hom : b = some false ∨ (b = none ∧ some true = some true) := by
    match b, hb with
    | some false, _ => exact .inl rfl
    | none, _ => exact .inr ⟨rfl, rfl⟩
    | some true, h => exact absurd rfl h
  show sds _ _ [some (.ref (He.ga K "Row")), some (.str t), none, none, none, none] _ _
  have hw : wgtB (Txt.split t " ") ≤ 901 := by
    have h : wgtB (Txt.split t " ") ≤ t.length + 1 := split_weight t " " (by decide)
    omega
  refine sds_cons ?_
  walk_at "pd"
  refine mtd_split (by decide) (small_le (by omega)) ?_
  generalize hws : Txt.split t " " = ws at hw
  have hwl := wgt_len ws
  walk_at "pdS"
  refine sds_cons ?_
  walk_at "pd"
  rw [List.length_map]
  have hshort : ws.length < 2 → readP t = none := fun h => by
    unfold readP
    rw [hws]
    match ws, h with
    | [], _ => rfl
    | [_], _ => rfl
  refine ifd (fun h => ?_) (fun h => ?_)
  · walk_at "pd"
    exact hE (hshort (by omega)) []
  have h2 : 2 ≤ ws.length := by omega
  obtain ⟨k, m, l, rfl⟩ : ∃ k m l, ws = k :: (m ++ [l]) := by
    match ws, h2 with
    | k :: x :: r, _ =>
      rcases List.eq_nil_or_concat (x :: r) with e | ⟨m, l, e⟩
      · cases e
      · exact ⟨k, m, l, by rw [e, List.concat_eq_append]⟩
  have hread : readP t = readW k m l := by
    unfold readP
    rw [hws]
    cases hm : m ++ [l] with
    | nil => exact absurd hm (by simp)
    | cons x r =>
      show readW k ((x :: r).dropLast) ((x :: r).getLastD "") = _
      rw [← hm, List.dropLast_concat, List.getLastD_concat]
  rw [hread] at hE hQ
  rw [List.map_cons, List.map_append, List.map_cons, List.map_nil]
  walk_at "pd"
  refine ixd_lst (atI_lastc _ _ _) ?_
  walk_at "pd"
  refine opd_notInS ["yes", "no"] (.tup _) rfl ?_
  by_cases hy : l ∈ (["yes", "no"] : List Str)
  case neg =>
    rw [decide_eq_false hy]
    walk_at "pd"
    exact hE (by unfold readW; rw [if_neg hy]) []
  rw [decide_eq_true hy]
  walk_at "pdS"
  refine sds_cons ?_
  walk_at "pdS"
  rw [cutD_mid]
  have hwm : wgtB m ≤ 901 := Nat.le_trans (wgt_sub ((List.sublist_append_left m [l]).trans (List.sublist_cons_self _ _))) hw
  obtain ⟨tw, htw⟩ : ∃ tw, tw = m.takeWhile notDo := ⟨_, rfl⟩
  obtain ⟨dd, hdd⟩ : ∃ dd, dd = if Str.ofString "do" ∈ m then toldB ((m.dropWhile notDo).drop 1) "then" else [] := ⟨_, rfl⟩
  obtain ⟨tt, htt⟩ : ∃ tt, tt = if tw = [] then [] else toldB (tw.drop 1) "and" := ⟨_, rfl⟩
  have hrd : readW k m l = if tw ≠ [] ∧ tw.headD "" ≠ Str.ofString "if" then none else if rowBad (.str k) (.lst (tt.map .str)) (.lst (dd.map .str)) (.bl (decide (l = "yes"))) = none then some ⟨k, tt, dd, decide (l = "yes")⟩ else none := by
    unfold readW
    rw [if_pos hy, ← htw, ← htt, ← hdd]
  rw [hrd] at hE hQ
  have hwt : wgtB tw ≤ 901 := Nat.le_trans (wgt_sub (by rw [htw]; exact List.takeWhile_sublist _)) hwm
  have hdl : (∀ u ∈ dd, u.length ≤ 901) ∧ dd.length ≤ 1000 := by
    rw [hdd]
    split
    · have h1 : wgtB ((m.dropWhile notDo).drop 1) ≤ 901 := Nat.le_trans (wgt_sub ((List.drop_sublist _ _).trans (List.dropWhile_sublist _))) hwm
      exact ⟨told_each h1, Nat.le_trans (toldB_len _ _) (by have := wgt_len ((m.dropWhile notDo).drop 1); omega)⟩
    · exact ⟨fun _ h => (List.not_mem_nil h).elim, Nat.zero_le _⟩
  have htl : (∀ u ∈ tt, u.length ≤ 901) ∧ tt.length ≤ 1000 := by
    rw [htt]
    split
    · exact ⟨fun _ h => (List.not_mem_nil h).elim, Nat.zero_le _⟩
    · have h1 : wgtB (tw.drop 1) ≤ 901 := Nat.le_trans (wgt_sub (List.drop_sublist _ _)) hwt
      exact ⟨told_each h1, Nat.le_trans (toldB_len _ _) (by have := wgt_len (tw.drop 1); omega)⟩
  refine sds_cut (fun δ' μ' => δ' = [some (.ref (He.ga K "Row")), some (.str t), some (.lst (D.str k :: (List.map D.str m ++ [D.str l]))), some (.lst (tw.map .str)), some (.lst []), some (.lst (dd.map .str))] ∧ μ = μ') ?_ ?_
  · walk_at "pd"
    refine ifd (fun h => ?_) (fun h => ?_)
    · obtain ⟨r, hm, hdw, hnd⟩ := do_split h
      rw [if_pos h, hdw] at hdd
      rw [← htw] at hm hnd
      have hix : m[tw.length]? = some (Str.ofString "do") := by rw [hm]; simp
      have hno : ∀ j, j < tw.length → m[j]? ≠ some (Str.ofString "do") := fun j hj e => by
        rw [hm, List.getElem?_append_left hj] at e
        exact hnd _ (List.mem_of_getElem? e) rfl
      have hml : m.length = tw.length + 1 + r.length := by rw [hm]; simp; omega
      walk_at "pd"
      refine mtd_indexS hix hno ?_
      walk_at "pd"
      rw [cutD_from (by omega) (by rw [List.length_map]; omega)]
      have e1 : (List.map D.str m).drop ((tw.length : Int) + 1).toNat = r.map .str := by
        have : ((tw.length : Int) + 1).toNat = tw.length + 1 := by omega
        rw [this, hm, List.map_append, List.map_cons, ← List.drop_drop, List.drop_left' (by simp)]; rfl
      rw [e1]
      walk_at "pd"
      have hwr : wgtB r ≤ 901 := Nat.le_trans (wgt_sub (by rw [hm]; exact (List.sublist_cons_self _ _).trans (List.sublist_append_right _ _))) hwm
      refine ⟨r, "then", rfl, by omega, ?_⟩
      rw [show toldB r "then" = dd from hdd.symm]
      walk_at "pd"
      refine mtd_indexS hix hno ?_
      walk_at "pd"
      rw [cutD_to (by omega) (by rw [List.length_map]; omega)]
      walk_at "pd"
      have e2 : (List.map D.str m).take ((tw.length : Int)).toNat = tw.map .str := by
        rw [Int.toNat_natCast, hm, List.map_append, List.take_left' (by simp)]
      rw [e2]
      exact ⟨rfl, rfl⟩
    · rw [if_neg h] at hdd
      rw [do_none h] at htw
      subst htw
      subst hdd
      walk_at "pd"
      exact ⟨rfl, rfl⟩
  rintro δ' μ' ⟨rfl, rfl⟩
  refine sds_cut (fun δ' μ' => (∃ x, δ' = [some (.ref (He.ga K "Row")), some (.str t), some (.lst (D.str k :: (List.map D.str m ++ [D.str l]))), x, some (.lst (tt.map .str)), some (.lst (dd.map .str))]) ∧ ¬ (tw ≠ [] ∧ tw.headD "" ≠ Str.ofString "if") ∧ μ = μ') ?_ ?_
  · walk_at "pd"
    rw [List.length_map]
    cases htw2 : tw with
    | nil =>
      rw [htw2, if_pos rfl] at htt
      subst htt
      refine ifd (fun h => absurd h (by decide)) (fun _ => ?_)
      walk_at "pd"
      exact ⟨⟨_, rfl⟩, fun h => h.1 rfl, rfl⟩
    | cons x r =>
      refine ifd (fun _ => ?_) (fun h => absurd (by simp) h)
      rw [List.map_cons]
      walk_at "pd"
      by_cases hx : x = Str.ofString "if"
      · subst hx
        rw [decide_eq_true rfl]
        walk_at "pd"
        rw [cutD_from (by decide) (by simp; omega)]
        walk_at "pd"
        have hr2 : wgtB r ≤ 901 := by rw [htw2, wgtB_cons] at hwt; omega
        refine ⟨r, "and", rfl, by omega, ?_⟩
        have e3 : tt = toldB r "and" := by rw [htt, htw2, if_neg (List.cons_ne_nil _ _)]; rfl
        rw [← e3]
        walk_at "pd"
        exact ⟨⟨_, rfl⟩, fun h => h.2 rfl, rfl⟩
      · rw [decide_eq_false hx]
        walk_at "pd"
        exact hE (by rw [htw2, if_pos ⟨List.cons_ne_nil _ _, hx⟩]) []
  rintro δ' μ' ⟨⟨x, rfl⟩, hif, rfl⟩
  rw [if_neg hif] at hE hQ
  refine sds_cons ?_
  refine sd_try_fromG (bm := some true) (by decide) hom rfl rfl ⟨_, _, rfl⟩ ⟨gl_of gl_Row_read_InvalidRow, by decide +kernel, .inl (g_InvalidRow T)⟩ (xa_InvalidText T) hr (by decide) (g_InvalidText T) (Arg.int 0 _ _) ?_
  intro F1 μ1 H1 pn xe tk po
  walk_at "pd"
  refine ixd_lst (atI_lastc _ _ _) ?_
  walk_at "pd"
  have hkl : k.length ≤ 901 := Nat.le_trans (wgt_mem List.mem_cons_self) hw
  refine ⟨_, _, _, _, rfl, ⟨rfl, fun z e => by cases e; omega⟩, ⟨rfl, (fun _ e => nomatch e), fun xs e => by cases e; exact ⟨by rw [List.length_map]; exact htl.2, fun y hy => by obtain ⟨u, hu, rfl⟩ := List.mem_map.mp hy; exact ⟨rfl, fun z e => by cases e; have := htl.1 u hu; omega⟩⟩⟩, ⟨rfl, (fun _ e => nomatch e), fun xs e => by cases e; exact ⟨by rw [List.length_map]; exact hdl.2, fun y hy => by obtain ⟨u, hu, rfl⟩ := List.mem_map.mp hy; exact ⟨rfl, fun z e => by cases e; have := hdl.1 u hu; omega⟩⟩⟩, rfl, fun w p dx hb => ?_, fun k' ts' ws' a' e1 e2 e3 e4 hb => ?_⟩
  · exact ⟨true, xm_InvalidRow_InvalidRow T, fun _ => ⟨_, rfl, hE (if_neg (by rw [hb]; exact fun z => nomatch z)) [(p, _)]⟩, fun h => nomatch h⟩
  · cases e1; cases e2; cases e3; cases e4
    have h := hQ _ (if_pos hb)
    exact h
end
end
section
variable {P : Program} {w : World} {K : PySem.W.Frag} {mg : Str → Option Value} {base : Heap}
/-! ### the law's own text of a row -/
theorem allTests_ok : ∀ t ∈ RT.allTests, PyData.strOk t = true := by decide +kernel
theorem allDeeds_ok : ∀ t ∈ RT.allDeeds, PyData.strOk t = true := by decide +kernel
theorem kinds_okS : ∀ t ∈ kindsL, PyData.strOk t = true := by decide +kernel
section
variable {k : Str} {ts ws : List Str} {a : Bool}
theorem RowG.tso (G : RowG k ts ws a) : strsOk ts := fun t ht => allTests_ok t (tests_all G.ok.kd (G.ok.te t ht))
theorem RowG.wso (G : RowG k ts ws a) : strsOk ws := fun t ht => allDeeds_ok t (deeds_all G.ok.kd (G.ok.de t ht))
theorem RowG.tup (G : RowG k ts ws a) : (rowTup k ts ws a).ok = true ∧ (rowTup k ts ws a).py.depth ≤ 64 := by
  have h1 := oks_strs G.tso
  have h2 := oks_strs G.wso
  have d1 := depthAll_strs ts
  have d2 := depthAll_strs ws
  have h3 : PyData.canLay0 (.str k) = true := by rw [PyData.canLay0]; exact kinds_okS k G.ok.kd
  unfold rowTup
  constructor
  · rw [D.ok, D.oks, D.oks, D.oks, D.oks, D.oks, D.ok, D.ok, D.ok, D.ok, h1, h2, h3]; rfl
  · rw [D.py, D.pys, D.pys, D.pys, D.pys, D.pys, D.py, D.py, D.py, D.py, PyData.depth, PyData.depthAll, PyData.depthAll, PyData.depthAll, PyData.depthAll, PyData.depthAll, PyData.depth, PyData.depth, PyData.depth, PyData.depth]; omega
end
theorem sapp (a b c : Str) : a ++ b ++ c = a ++ (b ++ c) := TL.ext_tl (by rw [TL.tl_append, TL.tl_append, TL.tl_append, TL.tl_append, List.append_assoc])
theorem snil (a : Str) : a ++ Str.ofString "" = a := TL.ext_tl (by rw [TL.tl_append]; exact List.append_nil _)
/-- the text put together -/
def catI (ts : List Str) : Str := if ts = [] then "" else " if " ++ Txt.join " and " ts
def catD (ws : List Str) : Str := if ws = [] then "" else " do " ++ Txt.join " then " ws
theorem join_sp (xs : List Str) : TL.tl (Txt.join " " xs) = TL.joinL [32] (xs.map TL.tl) := by rw [TL.join_eq, TL.tl_join]; rfl
theorem text_cat (k : Str) (ts ws : List Str) (a : Bool) : rowText k ts ws a = k ++ catI ts ++ catD ws ++ (if a then " yes" else " no" : Str) := by
  refine TL.ext_tl ?_
  unfold rowText
  rw [join_sp]
  unfold rowWords ifPart doPart catI catD
  rw [TL.tl_append, TL.tl_append, TL.tl_append]
  have e0 : TL.tl (Str.ofString "") = [] := rfl
  have e1 : TL.tl (Str.ofString " if ") = 32 :: (TL.tl (Str.ofString "if") ++ [32]) := rfl
  have e2 : TL.tl (Str.ofString " do ") = 32 :: (TL.tl (Str.ofString "do") ++ [32]) := rfl
  have e3 : TL.tl (if a = true then Str.ofString " yes" else Str.ofString " no") = 32 :: TL.tl (yesNo a) := by cases a <;> rfl
  rw [e3]
  by_cases h1 : ts = [] <;> by_cases h2 : ws = []
  · rw [if_pos h1, if_pos h2, if_pos h1, if_pos h2, e0]; simp [TL.joinL]
  · rw [if_pos h1, if_neg h2, if_pos h1, if_neg h2, e0, TL.tl_append, e2]; simp [TL.joinL]
  · rw [if_neg h1, if_pos h2, if_neg h1, if_pos h2, e0, TL.tl_append, e1]; simp [TL.joinL]
  · rw [if_neg h1, if_neg h2, if_neg h1, if_neg h2, TL.tl_append, e1, TL.tl_append, e2]; simp [TL.joinL]
def spRowText : SpD := fun ds μ Q _ => ∃ k ts ws a, ds = [rowTup k ts ws a] ∧ RowG k ts ws a ∧ Q (.str (rowText k ts ws a)) μ
theorem join_len {z : Str} {ts : List Str} {n : Nat} (h : ∀ t ∈ ts, t.length ≤ 20) (hn : ts.length ≤ 1000) (hz : z.length ≤ 6) : (ts.map (·.length)).sum + ts.length * z.length ≤ 26000 := by
  have h1 := sum_le h
  have h2 : ts.length * z.length ≤ 1000 * 6 := Nat.mul_le_mul hn hz
  omega
section
abbrev N_row_text : List Str := ["_law_row", "_law_found"]
theorem sc_row_text : FnScope N_row_text ["_law_row"] (defScope srow_text) := ⟨rfl, rfl, rfl, by decide +kernel, rfl, by decide +kernel, by decide +kernel⟩
theorem v_row_text_row : Nm N_row_text (defScope srow_text) 0 "_law_row" := ⟨rfl, by decide +kernel, by decide +kernel, by decide +kernel⟩
theorem v_row_text_found : Nm N_row_text (defScope srow_text) 1 "_law_found" := ⟨rfl, by decide +kernel, by decide +kernel, by decide +kernel⟩
local macro_rules | `(tactic| walk_at "pd.nm") => `(tactic| first
  | ((with_reducible show ed _ (Expr.Name "_law_row" _) _ _ _); first | refine ed_nm v_row_text_row rfl ?_ | refine ed_nmB (sc := defScope srow_text) v_row_text_row rfl ?_)
  | ((with_reducible show ed _ (Expr.Name "_law_found" _) _ _ _); first | refine ed_nm v_row_text_found rfl ?_ | refine ed_nmB (sc := defScope srow_text) v_row_text_found rfl ?_)
  | fail)
local macro_rules | `(tactic| walk_at "pd.set") => `(tactic| first
  | ((with_reducible show sd _ (Stmt.Assign [Expr.Name "_law_found" _] _ _) _ _ _); refine sd_nm v_row_text_found sc_row_text.nd ?_)
  | fail)
local macro_rules | `(tactic| walk_at "pd.g") => `(tactic| first
  | ((with_reducible show gd _ (Expr.Name "_law_found" _) _ _ _ _); refine gd_nm v_row_text_found sc_row_text.nd ?_)
  | fail)
local macro_rules | `(tactic| walk_at "pd.call") => `(tactic| first
  | ((with_reducible show ed _ (Expr.Call (Expr.Attribute _ "join" _) (_ :: _) _ _) _ _ _); with_reducible refine ed_bm PySem.F.plainAttrs_str PySem.F.slot_str_join PySem.F.type_str_join ?_)
  | fail)
local macro_rules | `(tactic| walk_at "pd.it") => `(tactic| first
  | ((with_reducible show eid _ _ _ _ _ _); refine eid_of ?_)
  | fail)
theorem ok_row_text (T : T0 w K mg) : CallD P w K mg base 1 (He.ga K "_law_row_text") 1 [] spRowText := by
  obtain ⟨fd, F⟩ := f_row_text T
  refine CallD.mk0 (ps := ["_law_row"]) F (fun _ _ _ _ _ _ us hl => match us, hl with | [_], _ => rfl) (fnD_of F sc_row_text fun cdv A outer s H F0 μ ds Qd Ed hr hl h => ?_)
  obtain ⟨k, ts, ws, a, rfl, G, q⟩ := h
  have hu := hr.units
  have R := G.txt
  have jt := join_len (z := " and ") (n := 0) R.tl R.tn (by decide)
  have jw := join_len (z := " then ") (n := 0) R.wl R.wn (by decide)
  have lt := len_join " and " ts
  have lw := len_join " then " ws
  have kl := R.kl
  rw [text_cat] at q
  show sds _ _ [some (rowTup k ts ws a), none] _ _
  unfold rowTup
  refine sds_cons ?_
  walk_at "pdS"
  refine sds_cut (fun δ' μ' => δ' = [some (rowTup k ts ws a), some (.str (k ++ catI ts))] ∧ μ = μ') ?_ ?_
  · walk_at "pd"
    refine opd_neV hu (.same _) (.same (D.lst [])) (ok_strs G.tso) (by rfl) (depth_strs _) (by decide) ?_
    rw [eqD_nil]
    unfold catI
    cases ts with
    | nil =>
      rw [List.map_nil]
      walk_at "pd"
      rw [if_pos rfl, snil]
      exact ⟨rfl, rfl⟩
    | cons t ts =>
      rw [List.map_cons]
      walk_at "pd"
      have l4 : (Str.ofString " if ").length = 4 := by decide
      refine opd_addS (by rw [l4]; exact small_le (by omega)) ?_
      walk_at "pd"
      refine mtd_joinS (t :: ts) (.lst _) rfl (by omega) ?_
      refine opd_addS (by rw [Str.length_append, l4]; exact small_le (by omega)) ?_
      rw [if_neg (by simp), ← sapp]
      walk_at "pd"
      exact ⟨rfl, rfl⟩
  rintro δ' μ' ⟨rfl, rfl⟩
  have lc : (k ++ catI ts).length ≤ 40000 := by
    rw [Str.length_append]; unfold catI; split
    · have : (Str.ofString "").length = 0 := by decide
      omega
    · have l4 : (Str.ofString " if ").length = 4 := by decide
      rw [Str.length_append, l4]; omega
  have ld : (catD ws).length ≤ 40000 := by
    unfold catD; split
    · have : (Str.ofString "").length = 0 := by decide
      omega
    · have l4 : (Str.ofString " do ").length = 4 := by decide
      rw [Str.length_append, l4]; omega
  refine sds_cut (fun δ' μ' => δ' = [some (rowTup k ts ws a), some (.str (k ++ catI ts ++ catD ws))] ∧ μ = μ') ?_ ?_
  · unfold rowTup
    walk_at "pd"
    refine opd_neV hu (.same _) (.same (D.lst [])) (ok_strs G.wso) (by rfl) (depth_strs _) (by decide) ?_
    rw [eqD_nil]
    unfold catD
    cases ws with
    | nil =>
      rw [List.map_nil]
      walk_at "pd"
      rw [if_pos rfl, snil]
      exact ⟨rfl, rfl⟩
    | cons t ws =>
      rw [List.map_cons]
      walk_at "pd"
      have l4 : (Str.ofString " do ").length = 4 := by decide
      refine opd_addS (by rw [l4]; exact small_le (by omega)) ?_
      walk_at "pd"
      refine mtd_joinS (t :: ws) (.lst _) rfl (by omega) ?_
      refine opd_addS (by rw [Str.length_append, l4]; exact Nat.le_trans (show _ ≤ 100000 from by omega) (by decide)) ?_
      rw [if_neg (by simp), ← sapp]
      walk_at "pd"
      exact ⟨rfl, rfl⟩
  rintro δ' μ' ⟨rfl, rfl⟩
  unfold rowTup
  walk_at "pd"
  cases a with
  | true =>
    walk_at "pd"
    have l4 : (Str.ofString " yes").length = 4 := by decide
    refine opd_addS (by rw [Str.length_append, l4]; exact small_le (by omega)) ?_
    exact q
  | false =>
    walk_at "pd"
    have l4 : (Str.ofString " no").length = 3 := by decide
    refine opd_addS (by rw [Str.length_append, l4]; exact small_le (by omega)) ?_
    exact q
end
end
section
variable {P : Program} {w : World} {K : PySem.W.Frag} {mg : Str → Option Value} {base : Heap}
/-! ### stores read, any text -/
def spRowAtX (K : PySem.W.Frag) : SpD := fun ds μ Q E => ∃ (t : Str) (n : Nat), ds = [.str t, .int (n : Int)] ∧ t.length ≤ 900 ∧ (readP t = none → ∀ G, E (.ref (He.ga K "InvalidText")) ["at"] [.int (n : Int)] (G ++ μ)) ∧ (∀ r, readP t = some r → Q (r.d (He.ga K "Row")) μ)
section
abbrev N_row_at : List Str := ["line", "at"]
theorem sc_row_at : FnScope N_row_at ["line", "at"] (defScope srow_at) := ⟨rfl, rfl, rfl, by decide +kernel, rfl, by decide +kernel, by decide +kernel⟩
theorem v_row_at_line : Nm N_row_at (defScope srow_at) 0 "line" := ⟨rfl, by decide +kernel, by decide +kernel, by decide +kernel⟩
theorem v_row_at_at : Nm N_row_at (defScope srow_at) 1 "at" := ⟨rfl, by decide +kernel, by decide +kernel, by decide +kernel⟩
theorem gl_row_at_InvalidText : (defScope srow_at).names.lookup ("InvalidText" : Str) = some .globalImplicit := by decide +kernel
theorem gl_row_at_Row : (defScope srow_at).names.lookup ("Row" : Str) = some .globalImplicit := by decide +kernel
local macro_rules | `(tactic| walk_at "pd.nm") => `(tactic| first
  | ((with_reducible show ed _ (Expr.Name "line" _) _ _ _); first | refine ed_nm v_row_at_line rfl ?_ | refine ed_nmB (sc := defScope srow_at) v_row_at_line rfl ?_)
  | ((with_reducible show ed _ (Expr.Name "at" _) _ _ _); first | refine ed_nm v_row_at_at rfl ?_ | refine ed_nmB (sc := defScope srow_at) v_row_at_at rfl ?_)
  | ((with_reducible show ed _ (Expr.Name "InvalidText" _) _ _ _); refine ed_gref (g_InvalidText (by assumption)) ?_ (hg := by first | exact gl_of gl_row_at_InvalidText))
  | ((with_reducible show ed _ (Expr.Name "Row" _) _ _ _); refine ed_gref (g_Row (by assumption)) ?_ (hg := by first | exact gl_of gl_row_at_Row))
  | fail)
local macro_rules | `(tactic| walk_at "pd.call") => `(tactic| first
  | ((with_reducible show ed _ (Expr.Call (Expr.Attribute (Expr.Name "Row" _) "read" _) (_ :: _) _ _) _ _ _); refine ed_cmC (cm_Row_read (by assumption)) ((ok_Row_read (by assumption)).at_ _) (by assumption) (by decide) ?_)
  | fail)
local macro_rules | `(tactic| walk_at "pd.it") => `(tactic| first
  | ((with_reducible show eid _ _ _ _ _ _); refine eid_of ?_)
  | fail)
local macro_rules | `(tactic| walk_at "pd.try") => `(tactic| first
  | ((with_reducible show sd _ (Stmt.Try _ [ExceptHandler.ExceptHandler (some (Expr.Name "InvalidText" _)) none _ _] _ _ _) _ _ _); refine sd_try_calm (c := .ref (He.ga _ "InvalidText")) rfl rfl ⟨gl_of gl_row_at_InvalidText, by decide +kernel, .inl (g_InvalidText (by assumption))⟩ ?_)
  | fail)
theorem ok_row_at (T : T0 w K mg) : CallF P w K mg base 7 (He.ga K "row_at") 2 [] (spRowAtX K) := by
  obtain ⟨fd, F⟩ := f_row_at T
  refine CallF.mk0 (ps := ["line", "at"]) F (fun _ _ _ _ _ _ us hl => match us, hl with | [_, _], _ => rfl) (fnD_of F sc_row_at fun cdv A outer s H F0 μ ds Qd Ed hr hl h => ?_)
  obtain ⟨t, n, rfl, hlen, hE, hQ⟩ := h
  show sds _ _ [some (.str t), some (.int (n : Int))] _ _
  refine sds_cons ?_
  refine sd_try_fromG (bm := none) (by decide) (.inl rfl) rfl rfl ⟨_, _, rfl⟩ ⟨gl_of gl_row_at_InvalidText, by decide +kernel, .inl (g_InvalidText T)⟩ (xa_InvalidText T) hr (by decide) (g_InvalidText T) (Arg.nm (j := 1) rfl (v_row_at_at.vis rfl) (by show 1 ≠ 2; decide) (by decide +kernel) (by decide +kernel)) ?_
  intro F1 μ1 H1 pn xe tk po
  walk_at "pd"
  refine ⟨rfl, ?_⟩
  walk_at "pd"
  refine ⟨t, rfl, hlen, fun h G => ?_, fun r h => ?_⟩
  · exact ⟨true, xm_InvalidText_InvalidText T, fun _ => ⟨_, rfl, hE h G⟩, fun h => nomatch h⟩
  · exact hQ r h
end
def linesOf (t : Str) : List Str := if t = "" then [] else Txt.split t "\n"
def spStoreReadX (K : PySem.W.Frag) : SpD := fun ds μ Q E => ∃ t, ds = [.ref (He.ga K "Store"), .str t] ∧ t.length ≤ 90000 ∧ (linesOf t).length ≤ 100 ∧ (∀ l ∈ linesOf t, l.length ≤ 900) ∧
  (∀ (j : Nat) l, (linesOf t)[j]? = some l → readP l = none → (∀ l' ∈ (linesOf t).take j, (readP l').isSome = true) → ∀ G, E (.ref (He.ga K "InvalidText")) ["at"] [.int (j : Int)] (G ++ μ)) ∧
  ∀ rs, (linesOf t).map readP = rs.map some → (∀ r ∈ rs, r.ws.length ≤ 100) ∧ Q (storeD K rs) μ
section
abbrev N_Store_read : List Str := ["cls", "text", "lines", "at", "line"]
theorem sc_Store_read : FnScope N_Store_read ["cls", "text"] (defScope sStore_read) := ⟨rfl, rfl, rfl, by decide +kernel, rfl, by decide +kernel, by decide +kernel⟩
theorem v_Store_read_cls : Nm N_Store_read (defScope sStore_read) 0 "cls" := ⟨rfl, by decide +kernel, by decide +kernel, by decide +kernel⟩
theorem v_Store_read_text : Nm N_Store_read (defScope sStore_read) 1 "text" := ⟨rfl, by decide +kernel, by decide +kernel, by decide +kernel⟩
theorem v_Store_read_lines : Nm N_Store_read (defScope sStore_read) 2 "lines" := ⟨rfl, by decide +kernel, by decide +kernel, by decide +kernel⟩
theorem w_Store_read_at : NmB N_Store_read 3 "at" := ⟨rfl, by decide +kernel, by decide +kernel⟩
theorem w_Store_read_line : NmB N_Store_read 4 "line" := ⟨rfl, by decide +kernel, by decide +kernel⟩
theorem gl_Store_read_enumerate : (defScope sStore_read).names.lookup ("enumerate" : Str) = some .globalImplicit := by decide +kernel
theorem sl_Store_read_lines : (defScope sStore_read).names.lookup ("lines" : Str) = some .local := by decide +kernel
local macro_rules | `(tactic| walk_at "pd.nm") => `(tactic| first
  | ((with_reducible show ed _ (Expr.Name "cls" _) _ _ _); first | refine ed_nm v_Store_read_cls rfl ?_ | refine ed_nmBX (sc := defScope sStore_read) v_Store_read_cls rfl ?_)
  | ((with_reducible show ed _ (Expr.Name "text" _) _ _ _); first | refine ed_nm v_Store_read_text rfl ?_ | refine ed_nmBX (sc := defScope sStore_read) v_Store_read_text rfl ?_)
  | ((with_reducible show ed _ (Expr.Name "lines" _) _ _ _); first | refine ed_nm v_Store_read_lines rfl ?_ | refine ed_nmBX (sc := defScope sStore_read) v_Store_read_lines rfl ?_)
  | ((with_reducible show ed _ (Expr.Name "at" _) _ _ _); refine ed_nmCX (sc := defScope sStore_read) w_Store_read_at rfl ?_)
  | ((with_reducible show ed _ (Expr.Name "line" _) _ _ _); refine ed_nmCX (sc := defScope sStore_read) w_Store_read_line rfl ?_)
  | ((with_reducible show ed _ (Expr.Name "enumerate" _) _ _ _); refine ed_ty (n := "enumerate") (b_enumerate (by assumption)) bb_enumerate ?_ (hg := by first | exact gl_of gl_Store_read_enumerate | exact glBX_of (sc := defScope sStore_read)))
  | fail)
local macro_rules | `(tactic| walk_at "pd.set") => `(tactic| first
  | ((with_reducible show sd _ (Stmt.Assign [Expr.Name "lines" _] (Expr.ListComp _ _ _ _) _) _ _ _); refine sd_setLc (own := [("at", 3), ("line", 4)]) (i := 2) rfl sc_Store_read.nd rfl (by exact sl_Store_read_lines) (sw_true rfl (by exact sl_Store_read_lines) rfl (by decide +kernel)) (blkOk_by (N := N_Store_read) (sc := defScope sStore_read) (by decide +kernel)) ?_)
  | ((with_reducible show sd _ (Stmt.Assign [Expr.Name "lines" _] _ _) _ _ _); refine sd_nm v_Store_read_lines sc_Store_read.nd ?_)
  | fail)
local macro_rules | `(tactic| walk_at "pd.g") => `(tactic| first
  | ((with_reducible show gd _ (Expr.Name "lines" _) _ _ _ _); refine gd_nm v_Store_read_lines sc_Store_read.nd ?_)
  | ((with_reducible show gv _ (Expr.Name "at" _) _ _ _ _ _); refine gv_nmCX (sc := defScope sStore_read) w_Store_read_at sc_Store_read.nd (by decide) ?_)
  | ((with_reducible show gv _ (Expr.Name "line" _) _ _ _ _ _); refine gv_nmCX (sc := defScope sStore_read) w_Store_read_line sc_Store_read.nd (by decide) ?_)
  | fail)
local macro_rules | `(tactic| walk_at "pd.call") => `(tactic| first
  | ((with_reducible show ed _ (Expr.Call (Expr.Name "cls" _) (_ :: _) _ _) _ _ _); refine ed_makeL v_Store_read_cls rfl (mk_Store_1 (by assumption)) (by assumption) (by decide) ?_)
  | ((with_reducible show ed _ (Expr.Call (Expr.Attribute _ "split" _) (_ :: _) _ _) _ _ _); with_reducible refine ed_bm PySem.F.plainAttrs_str PySem.F.slot_str_split PySem.F.type_str_split ?_)
  | ((with_reducible show ed _ (Expr.Call (Expr.Name "row_at" _) (_ :: _) _ _) _ _ _); refine ed_callC ((ok_row_at (by assumption)).at_ _) (by assumption) (by decide) (g_row_at (by assumption)) ?_ (hg := by first | exact glBX_of (sc := defScope sStore_read)))
  | fail)
local macro_rules | `(tactic| walk_at "pd.lc") => `(tactic| first
  | ((with_reducible show ed _ (Expr.ListComp _ [_] _ _) _ _ _); refine ed_lcX (own := [("at", 3), ("line", 4)]) [("at", 3), ("line", 4)] rfl rfl sc_Store_read.nd (blkOk_by (N := N_Store_read) (sc := defScope sStore_read) (by decide +kernel)) ?_)
  | fail)
local macro_rules | `(tactic| walk_at "pd.it") => `(tactic| first
  | ((with_reducible show eid _ _ (Expr.Call (Expr.Name "enumerate" _) [_] _ _) _ _ _); refine eid_enumS (b_enumerate (by assumption)) ?_ (hg := by first | exact gl_of gl_Store_read_enumerate | exact glBX_of (sc := defScope sStore_read)))
  | ((with_reducible show eid _ _ _ _ _ _); refine eid_of ?_)
  | fail)
theorem ok_Store_read (T : T0 w K mg) : CallF P w K mg base 8 (He5.wf K (He.ga K "Store") "classmethod" "read") 2 [] (spStoreReadX K) := by
  obtain ⟨fd, F⟩ := f_Store_read T
  refine CallF.mk0 (ps := ["cls", "text"]) F (fun _ _ _ _ _ _ us hl => match us, hl with | [_, _], _ => rfl) (fnD_of F sc_Store_read fun cdv A outer s H F0 μ ds Qd Ed hr hl h => ?_)
  obtain ⟨t, rfl, hlen, hll, hle, hE, hQ⟩ := h
  have hu0 := Nat.lt_of_le_of_lt (Nat.le_add_right _ 64) hr.units
  show sds _ _ (some (.ref (He.ga K "Store")) :: some (.str t) :: List.replicate 3 none) _ _
  refine sds_cut (fun δ' μ' => δ' = [some (.ref (He.ga K "Store")), some (.str t), some (.lst ((linesOf t).map .str)), none, none] ∧ μ' = μ) ?_ ?_
  · walk_at "pd"
    by_cases h : t = ""
    · rw [decide_eq_true h]
      refine iteFr rfl ?_
      walk_at "pd"
      unfold linesOf
      rw [if_pos h]
      exact ⟨rfl, rfl⟩
    · rw [decide_eq_false h]
      refine iteTr rfl ?_
      walk_at "pd"
      refine mtd_split (by decide) (small_le (by omega)) ?_
      unfold linesOf
      rw [if_neg h]
      exact ⟨rfl, rfl⟩
  rintro δ' μ' ⟨rfl, rfl⟩
  refine sds_cons ?_
  walk_at "pd"
  show eid _ _ _ _ _ _
  walk_at "pd"
  have hel : (enumD ((linesOf t).map D.str)).length = (linesOf t).length := by rw [enumD_len, List.length_map]
  refine ⟨by omega, fun i acc μ2 => ∃ rs : List Rw, ((linesOf t).take i).map readP = rs.map some ∧ acc = rwDs (He.ga K "Row") rs ∧ μ2 = μ', ⟨[], rfl, rfl, rfl⟩, fun i acc μ2 hi h => ⟨by obtain ⟨_, _, _, rfl⟩ := h; exact .lst _, ?_⟩, ?_, ?_⟩
  · obtain ⟨rs, h1, rfl, rfl⟩ := h
    have h2 := congrArg List.length h1
    rw [List.length_map, List.length_map, List.length_take] at h2
    rw [rwDs_len]
    omega
  · rintro i d acc μ2 hd ⟨rs, h1, rfl, rfl⟩
    obtain ⟨x, hx, rfl⟩ := enumD_get hd
    rw [List.getElem?_map] at hx
    obtain ⟨l, hl2, rfl⟩ : ∃ l, (linesOf t)[i]? = some l ∧ x = .str l := by
      cases h : (linesOf t)[i]? with
      | none => rw [h] at hx; cases hx
      | some l => rw [h] at hx; cases hx; exact ⟨l, rfl, rfl⟩
    walk_at "pd"
    refine ⟨l, i, rfl, hle l (List.mem_of_getElem? hl2), fun h G => ?_, fun r h => ?_⟩
    · refine hE i l hl2 h (fun l' hl' => ?_) G
      have h3 : readP l' ∈ ((linesOf t).take i).map readP := List.mem_map_of_mem hl'
      rw [h1] at h3
      obtain ⟨r, _, h4⟩ := List.mem_map.mp h3
      rw [← h4]; rfl
    · refine ⟨rs ++ [r], ?_, ?_, rfl⟩
      · rw [List.take_succ, hl2, List.map_append, List.map_append, h1]
        show _ ++ [readP l] = _
        rw [h]; rfl
      · unfold rwDs
        rw [List.map_append]; rfl
  · rintro acc μ2 ⟨rs, h1, rfl, rfl⟩
    rw [hel, List.take_length] at h1
    obtain ⟨hw, hq⟩ := hQ rs h1
    walk_at "pd"
    have h2 := congrArg List.length h1
    rw [List.length_map, List.length_map] at h2
    exact ⟨_, some rs, rfl, .good rs (.lst _) (by omega) hw, (fun h => nomatch h), fun rs' h => by cases h; exact hq⟩
end
end
section
variable {P : Program} {w : World} {K : PySem.W.Frag} {mg : Str → Option Value} {base : Heap}
/-! ### a row's own text is read; the lines of a text -/
theorem takeWhile_own {If Do : List Str} (hn : ∀ x ∈ If, x ≠ Str.ofString "do") (hd : Do = [] ∨ ∃ r, Do = Str.ofString "do" :: r) : (If ++ Do).takeWhile notDo = If ∧ (If ++ Do).dropWhile notDo = Do := by
  have h1 : ∀ x ∈ If, notDo x = true := fun x hx => decide_eq_true (hn x hx)
  rw [List.takeWhile_append_of_pos h1, List.dropWhile_append_of_pos h1]
  rcases hd with rfl | ⟨r, rfl⟩
  · exact ⟨List.append_nil _, rfl⟩
  · have h2 : ¬ notDo (Str.ofString "do") = true := by decide
    rw [List.takeWhile_cons_of_neg h2, List.dropWhile_cons_of_neg h2, List.append_nil]
    exact ⟨rfl, rfl⟩
theorem read_own {r : Rw} (G : r.ok) : readP r.txt = some r := by
  obtain ⟨k, ts, ws, a⟩ := r
  have G : RowG k ts ws a := G
  obtain ⟨If, Do, R⟩ := RT.words_of a G.fin
  have hd : Do = [] ∨ ∃ r, Do = Str.ofString "do" :: r := by
    rcases R.d with ⟨_, e⟩ | ⟨_, r, e, _⟩
    · exact .inl e
    · exact .inr ⟨r, e⟩
  obtain ⟨w1, w2⟩ := takeWhile_own R.nd hd
  have hrw : readW k (If ++ Do) (yesNo a) = some ⟨k, ts, ws, a⟩ := by
    have hy : yesNo a ∈ (["yes", "no"] : List Str) := by cases a <;> decide
    have hy2 : decide (yesNo a = "yes") = a := by cases a <;> decide
    unfold readW
    rw [if_pos hy, w1, w2, hy2]
    have c1 : ¬ (If ≠ [] ∧ If.headD "" ≠ Str.ofString "if") := by
      rintro ⟨n1, n2⟩
      rcases R.i with ⟨_, e⟩ | ⟨_, r, e, _⟩
      · exact n1 e
      · rw [e] at n2; exact n2 rfl
    have c2 : (if If = [] then [] else toldB (If.drop 1) "and") = ts := by
      rcases R.i with ⟨e1, e⟩ | ⟨_, r, e, h⟩
      · rw [if_pos e, e1]
      · rw [if_neg (by rw [e]; simp), e]; exact h
    have c3 : (if Str.ofString "do" ∈ If ++ Do then toldB (Do.drop 1) "then" else []) = ws := by
      rcases R.d with ⟨e1, e⟩ | ⟨_, r, e, h⟩
      · rw [if_neg (fun z => ?_), e1]
        rw [e, List.append_nil] at z
        exact R.nd _ z rfl
      · rw [if_pos (by rw [e]; simp), e]; exact h
    rw [if_neg c1, c2, c3, if_pos (G.good rfl rfl)]
  show readP (rowText k ts ws a) = _
  unfold readP
  rw [R.e]
  cases hm : If ++ Do ++ [yesNo a] with
  | nil => simp at hm
  | cons x rr =>
    show readW k ((x :: rr).dropLast) ((x :: rr).getLastD "") = _
    rw [← hm, List.dropLast_concat, List.getLastD_concat]
    exact hrw
theorem joinL_mem (S : List Nat) (c : Nat) : ∀ ps : List (List Nat), c ∈ TL.joinL S ps → c ∈ S ∨ ∃ p ∈ ps, c ∈ p
  | [], h => (List.not_mem_nil h).elim
  | [p], h => .inr ⟨p, List.mem_cons_self, h⟩
  | p :: q :: r, h => by
    rcases List.mem_append.mp (show c ∈ p ++ (S ++ TL.joinL S (q :: r)) from h) with h | h
    · exact .inr ⟨p, List.mem_cons_self, h⟩
    · rcases List.mem_append.mp h with h | h
      · exact .inl h
      · rcases joinL_mem S c (q :: r) h with h | ⟨p', h1, h2⟩
        · exact .inl h
        · exact .inr ⟨p', List.mem_cons_of_mem _ h1, h2⟩
theorem join_mem {z : Str} {ys : List Str} {c : Nat} (h : c ∈ TL.tl (Txt.join z ys)) : c ∈ TL.tl z ∨ ∃ y ∈ ys, c ∈ TL.tl y := by
  rw [TL.join_eq, TL.tl_join] at h
  rcases joinL_mem _ c _ h with h | ⟨p, hp, h⟩
  · exact .inl h
  · obtain ⟨y, hy, rfl⟩ := List.mem_map.mp hp
    exact .inr ⟨y, hy, h⟩
theorem tests_nl : ∀ t ∈ RT.allTests, 10 ∉ TL.tl t := by decide +kernel
theorem deeds_nl : ∀ t ∈ RT.allDeeds, 10 ∉ TL.tl t := by decide +kernel
theorem kinds_nl : ∀ t ∈ kindsL, 10 ∉ TL.tl t := by decide +kernel
theorem row_nl {r : Rw} (G : r.ok) : 10 ∉ TL.tl r.txt := by
  obtain ⟨k, ts, ws, a⟩ := r
  have G : RowG k ts ws a := G
  intro h
  rcases join_mem (show 10 ∈ TL.tl (Txt.join " " (rowWords k ts ws a)) from h) with h | ⟨y, hy, h⟩
  · exact absurd h (by decide)
  · unfold rowWords at hy
    rcases List.mem_append.mp hy with hy | hy
    · rcases List.mem_append.mp hy with hy | hy
      · rcases List.mem_append.mp hy with hy | hy
        · rw [List.mem_singleton.mp hy] at h
          exact kinds_nl k G.fin.k h
        · unfold ifPart at hy
          split at hy
          · exact List.not_mem_nil hy
          · rcases List.mem_cons.mp hy with rfl | hy
            · exact absurd h (by decide)
            · rw [List.mem_singleton.mp hy] at h
              rcases join_mem h with h | ⟨t, ht, h⟩
              · exact absurd h (by decide)
              · exact tests_nl t (G.fin.t t ht) h
      · unfold doPart at hy
        split at hy
        · exact List.not_mem_nil hy
        · rcases List.mem_cons.mp hy with rfl | hy
          · exact absurd h (by decide)
          · rw [List.mem_singleton.mp hy] at h
            rcases join_mem h with h | ⟨t, ht, h⟩
            · exact absurd h (by decide)
            · exact deeds_nl t (G.fin.d t ht) h
    · rw [List.mem_singleton.mp hy] at h
      revert h
      cases a <;> decide
theorem split_nl {ls : List Str} (hne : ls ≠ []) (h : ∀ l ∈ ls, 10 ∉ TL.tl l) : Txt.split (Txt.join "\n" ls) "\n" = ls :=
  TL.split_join (y := "\n") (s := 10) (S := []) rfl (by decide +kernel) hne h
theorem linesOf_join {ls : List Str} (hne : ls ≠ []) (h : ∀ l ∈ ls, 10 ∉ TL.tl l) (h0 : ls ≠ [Str.ofString ""]) : linesOf (Txt.join "\n" ls) = ls := by
  have hs := split_nl hne h
  unfold linesOf
  rw [if_neg (fun e => ?_), hs]
  rw [e] at hs
  exact h0 (by rw [← hs]; decide)
theorem row_ne {r : Rw} (G : r.ok) : r.txt ≠ Str.ofString "" := fun e => by
  have h := read_own G
  rw [e] at h
  exact absurd h (by rw [show readP (Str.ofString "") = none by decide]; exact fun h => nomatch h)
/-- all lines are rows -/
theorem lines_all {rs : List Rw} (h : ∀ r ∈ rs, r.ok) : (rs.map Rw.txt).map readP = rs.map some := by
  rw [List.map_map]
  exact List.map_congr_left fun r hr => read_own (h r hr)
theorem some_inj {rs rs' : List Rw} (h : rs.map some = rs'.map some) : rs = rs' := (List.map_inj_right (fun _ _ e => Option.some.inj e)).mp h
/-- the first line that is none -/
theorem first_bad {pre post : List Str} {x : Str} (hp : ∀ l ∈ pre, (readP l).isSome = true) (hx : readP x = none) {j : Nat} {l : Str} (h1 : (pre ++ x :: post)[j]? = some l) (h2 : readP l = none) (h3 : ∀ l' ∈ (pre ++ x :: post).take j, (readP l').isSome = true) : j = pre.length := by
  rcases Nat.lt_trichotomy j pre.length with h | h | h
  · rw [List.getElem?_append_left h] at h1
    have := hp l (List.mem_of_getElem? h1)
    rw [h2] at this; cases this
  · exact h
  · have : x ∈ (pre ++ x :: post).take j := by
      refine List.mem_of_getElem? (i := pre.length) ?_
      rw [List.getElem?_take, if_pos h, List.getElem?_append_right (Nat.le_refl _), Nat.sub_self]; rfl
    have := h3 x this
    rw [hx] at this; cases this
theorem bad_none {pre post : List Str} {x : Str} (hx : readP x = none) {rs : List Rw} (h : (pre ++ x :: post).map readP = rs.map some) : False := by
  have : readP x ∈ rs.map some := by rw [← h]; exact List.mem_map_of_mem (by simp)
  rw [hx] at this
  obtain ⟨r, _, e⟩ := List.mem_map.mp this
  cases e
theorem join_mapS (w : Str) (l : List Str) : TL.tl (Txt.join w l) = TL.joinL (TL.tl w) (l.map TL.tl) := by rw [TL.join_eq, TL.tl_join]
theorem joinL_len (S : RT.W) : ∀ {ps : List RT.W}, ps ≠ [] → (TL.joinL S ps).length + S.length = (ps.map List.length).sum + ps.length * S.length
  | [], h => absurd rfl h
  | [p], _ => by show p.length + S.length = p.length + 0 + 1 * S.length; omega
  | p :: q :: r, _ => by
    have ih := joinL_len S (ps := q :: r) (by simp)
    show (p ++ (S ++ TL.joinL S (q :: r))).length + S.length = p.length + ((q :: r).map List.length).sum + ((q :: r).length + 1) * S.length
    rw [List.length_append, List.length_append, Nat.add_mul]
    omega
theorem join_le {w : Str} {l : List Str} {n c : Nat} (hne : l ≠ []) (h : ∀ u ∈ l, u.length ≤ n) (hc : l.length ≤ c) : (Txt.join w l).length + w.length ≤ c * n + c * w.length := by
  have h1 := joinL_len (TL.tl w) (ps := l.map TL.tl) (by simpa using hne)
  rw [← join_mapS, ← TL.len_tl, ← TL.len_tl, List.map_map, List.length_map] at h1
  have h2 : ((l.map (List.length ∘ TL.tl))).sum ≤ l.length * n := by
    clear h1 hc hne
    induction l with
    | nil => simp
    | cons x l ih =>
      have := ih fun u hu => h u (List.mem_cons_of_mem _ hu)
      have h3 := h x List.mem_cons_self
      rw [TL.len_tl] at h3
      rw [List.map_cons, List.sum_cons, List.length_cons, Nat.add_mul]
      show (TL.tl x).length + _ ≤ _
      omega
  have h3 := Nat.mul_le_mul_right n hc
  have h4 := Nat.mul_le_mul_right w.length hc
  omega
theorem row_len {k : Str} {ts ws : List Str} {a : Bool} (R : RowOk k ts ws a) (h1 : ts.length ≤ 2) (h2 : ws.length ≤ 3) : (rowText k ts ws a).length ≤ 86 := by
  have kk : ∀ k ∈ kindsL, k.length ≤ 5 := by decide +kernel
  have kt : ∀ t ∈ RT.allTests, t.length ≤ 17 := by decide +kernel
  have kd : ∀ t ∈ RT.allDeeds, t.length ≤ 6 := by decide +kernel
  have l0 : (Str.ofString "").length = 0 := by decide
  have l1 : (Str.ofString " if ").length = 4 := by decide
  have l2 : (Str.ofString " do ").length = 4 := by decide
  have l3 : (Str.ofString " and ").length = 5 := by decide
  have l4 : (Str.ofString " then ").length = 6 := by decide
  have l5 : ((if a then " yes" else " no" : Str)).length ≤ 4 := by cases a <;> decide
  have hk := kk k R.kd
  have hi : (catI ts).length ≤ 43 := by
    unfold catI
    split
    · omega
    · rename_i hne
      have := join_le (w := " and ") hne (fun u hu => kt u (tests_all R.kd (R.te u hu))) h1
      rw [Str.length_append]; omega
  have hd : (catD ws).length ≤ 34 := by
    unfold catD
    split
    · omega
    · rename_i hne
      have := join_le (w := " then ") hne (fun u hu => kd u (deeds_all R.kd (R.de u hu))) h2
      rw [Str.length_append]; omega
  rw [text_cat, Str.length_append, Str.length_append, Str.length_append]
  omega
end
section
variable {P : Program} {w : World} {K : PySem.W.Frag} {mg : Str → Option Value} {base : Heap}
/-! ### the store as the law makes it; what reading comes to -/
def rwT (r : Rw) : D := .tup [.str r.k, .lst (r.ts.map .str), .lst (r.ws.map .str), .bl r.a]
def spMkStore (K : PySem.W.Frag) : SpD := fun ds μ Q _ => ∃ rs : List Rw, ds = [.lst (rs.map rwT)] ∧ rs.length ≤ 100 ∧ (∀ r ∈ rs, r.ok) ∧ Q (storeD K rs) μ
section
abbrev N_store : List Str := ["_law_rows", "_law_kind", "_law_tests", "_law_deeds", "_law_answer"]
theorem sc_store : FnScope N_store ["_law_rows"] (defScope sstore) := ⟨rfl, rfl, rfl, by decide +kernel, rfl, by decide +kernel, by decide +kernel⟩
theorem v_store_rows : Nm N_store (defScope sstore) 0 "_law_rows" := ⟨rfl, by decide +kernel, by decide +kernel, by decide +kernel⟩
theorem w_store_kind : NmB N_store 1 "_law_kind" := ⟨rfl, by decide +kernel, by decide +kernel⟩
theorem w_store_tests : NmB N_store 2 "_law_tests" := ⟨rfl, by decide +kernel, by decide +kernel⟩
theorem w_store_deeds : NmB N_store 3 "_law_deeds" := ⟨rfl, by decide +kernel, by decide +kernel⟩
theorem w_store_answer : NmB N_store 4 "_law_answer" := ⟨rfl, by decide +kernel, by decide +kernel⟩
theorem gl_store_Store : (defScope sstore).names.lookup ("Store" : Str) = some .globalImplicit := by decide +kernel
local macro_rules | `(tactic| walk_at "pd.nm") => `(tactic| first
  | ((with_reducible show ed _ (Expr.Name "_law_rows" _) _ _ _); first | refine ed_nm v_store_rows rfl ?_ | refine ed_nmB (sc := defScope sstore) v_store_rows rfl ?_)
  | ((with_reducible show ed _ (Expr.Name "_law_kind" _) _ _ _); refine ed_nmC (sc := defScope sstore) w_store_kind rfl ?_)
  | ((with_reducible show ed _ (Expr.Name "_law_tests" _) _ _ _); refine ed_nmC (sc := defScope sstore) w_store_tests rfl ?_)
  | ((with_reducible show ed _ (Expr.Name "_law_deeds" _) _ _ _); refine ed_nmC (sc := defScope sstore) w_store_deeds rfl ?_)
  | ((with_reducible show ed _ (Expr.Name "_law_answer" _) _ _ _); refine ed_nmC (sc := defScope sstore) w_store_answer rfl ?_)
  | ((with_reducible show ed _ (Expr.Name "Row" _) _ _ _); refine ed_gref (g_Row (by assumption)) ?_ (hg := by first | exact glB_of (sc := defScope sstore)))
  | ((with_reducible show ed _ (Expr.Name "Store" _) _ _ _); refine ed_gref (g_Store (by assumption)) ?_ (hg := by first | exact gl_of gl_store_Store))
  | ((with_reducible show ed _ (Expr.Name "tuple" _) _ _ _); refine ed_ty (n := "tuple") (b_tuple (by assumption)) bb_tuple ?_ (hg := by first | exact glB_of (sc := defScope sstore)))
  | fail)
local macro_rules | `(tactic| walk_at "pd.g") => `(tactic| first
  | ((with_reducible show gv _ (Expr.Name "_law_kind" _) _ _ _ _ _); refine gv_nmC (sc := defScope sstore) w_store_kind sc_store.nd (by decide) ?_)
  | ((with_reducible show gv _ (Expr.Name "_law_tests" _) _ _ _ _ _); refine gv_nmC (sc := defScope sstore) w_store_tests sc_store.nd (by decide) ?_)
  | ((with_reducible show gv _ (Expr.Name "_law_deeds" _) _ _ _ _ _); refine gv_nmC (sc := defScope sstore) w_store_deeds sc_store.nd (by decide) ?_)
  | ((with_reducible show gv _ (Expr.Name "_law_answer" _) _ _ _ _ _); refine gv_nmC (sc := defScope sstore) w_store_answer sc_store.nd (by decide) ?_)
  | fail)
local macro_rules | `(tactic| walk_at "pd.call") => `(tactic| first
  | ((with_reducible show ed _ (Expr.Call (Expr.Name "Store" _) [_] _ _) _ _ _); refine ed_makeC (mk_Store_1 (by assumption)) (by assumption) (by decide) (g_Store (by assumption)) ?_ (hg := by first | exact gl_of gl_store_Store))
  | ((with_reducible show ed _ (Expr.Call (Expr.Name "Row" _) [_, _, _, _] _ _) _ _ _); refine ed_makeC (mk_Row_4 (by assumption)) (by assumption) (by decide) (g_Row (by assumption)) ?_ (hg := by first | exact glB_of (sc := defScope sstore)))
  | ((with_reducible show ed _ (Expr.Call (Expr.Name "tuple" _) (_ :: _) _ _) _ _ _); refine ed_callTy (T := "tuple") (b_tuple (by assumption)) bb_tuple ?_ (hg := by first | exact glB_of (sc := defScope sstore)))
  | fail)
local macro_rules | `(tactic| walk_at "pd.lc") => `(tactic| first
  | ((with_reducible show ed _ (Expr.ListComp _ [_] _ _) _ _ _); refine ed_lc (own := [("_law_kind", 1), ("_law_tests", 2), ("_law_deeds", 3), ("_law_answer", 4)]) [("_law_kind", 1), ("_law_tests", 2), ("_law_deeds", 3), ("_law_answer", 4)] rfl rfl sc_store.nd (blkOk_by (N := N_store) (sc := defScope sstore) (by decide +kernel)) ?_)
  | fail)
local macro_rules | `(tactic| walk_at "pd.it") => `(tactic| first
  | ((with_reducible show eid _ _ _ _ _ _); refine eid_of ?_)
  | fail)
theorem ok_store (T : T0 w K mg) : CallD P w K mg base 5 (He.ga K "_law_store") 1 [] (spMkStore K) := by
  obtain ⟨fd, F⟩ := f_store T
  refine CallD.mk0 (ps := ["_law_rows"]) F (fun _ _ _ _ _ _ us hl => match us, hl with | [_], _ => rfl) (fnD_of F sc_store fun cdv A outer s H F0 μ ds Qd Ed hr hl h => ?_)
  obtain ⟨rs, rfl, hn, hok, q⟩ := h
  show sds _ _ [some (.lst (rs.map rwT)), none, none, none, none] _ _
  refine sds_cons ?_
  walk_at "pd"
  refine lcd_ix (fun μ' => μ' = μ) (rwDs (He.ga K "Row") rs) ?_
  walk_at "pd"
  refine ⟨by rw [List.length_map]; omega, by rw [rwDs_len, List.length_map], rfl, fun _ _ => trivial, ?_, ?_⟩
  · rintro j d1 r1 μ' hd1 hr1 rfl
    rw [List.getElem?_map] at hd1
    rw [rwDs_get] at hr1
    cases hj : rs[j]? with
    | none => rw [hj] at hd1; cases hd1
    | some r =>
      rw [hj] at hd1 hr1
      cases hd1
      cases hr1
      unfold rwT
      walk_at "pd"
      refine ⟨rfl, ?_⟩
      walk_at "pd"
      refine rowGC_of (xt := .lst (r.ts.map .str)) (xd := .tup (r.ws.map .str)) (hok r (List.mem_of_getElem? hj)) rfl rfl (fun _ h => by cases h) (fun _ h => by cases h) rfl rfl ?_
      exact ⟨rfl, rfl⟩
  · rintro μ' rfl
    walk_at "pd"
    refine ⟨_, some rs, rfl, .good rs (.lst _) hn (fun r h => (hok r h).wn), fun h => (by cases h), fun rs0 h => ?_⟩
    cases h
    exact q
end
structure TxtOk (t : Str) : Prop where
  n : t.length ≤ 90000
  l : (linesOf t).length ≤ 100
  e : ∀ l ∈ linesOf t, l.length ≤ 900
def spHeardS : SpD := fun ds μ Q _ => ∃ t, ds = [.str t] ∧ TxtOk t ∧
  (∀ (j : Nat) l, (linesOf t)[j]? = some l → readP l = none → (∀ l' ∈ (linesOf t).take j, (readP l').isSome = true) → Q (.int (j : Int)) μ) ∧
  ∀ rs, (linesOf t).map readP = rs.map some → rs.length ≤ 100 ∧ (∀ r ∈ rs, r.ok) ∧ Q (.str (storeTxt rs)) μ
section
abbrev N_heard : List Str := ["_law_text", "_law_found", "e"]
theorem sc_heard : FnScope N_heard ["_law_text"] (defScope sheard) := ⟨rfl, rfl, rfl, by decide +kernel, rfl, by decide +kernel, by decide +kernel⟩
theorem v_heard_text : Nm N_heard (defScope sheard) 0 "_law_text" := ⟨rfl, by decide +kernel, by decide +kernel, by decide +kernel⟩
theorem v_heard_found : Nm N_heard (defScope sheard) 1 "_law_found" := ⟨rfl, by decide +kernel, by decide +kernel, by decide +kernel⟩
theorem v_heard_e : Nm N_heard (defScope sheard) 2 "e" := ⟨rfl, by decide +kernel, by decide +kernel, by decide +kernel⟩
theorem gl_heard_EndError : (defScope sheard).names.lookup ("EndError" : Str) = some .globalImplicit := by decide +kernel
theorem gl_heard_InvalidStore : (defScope sheard).names.lookup ("InvalidStore" : Str) = some .globalImplicit := by decide +kernel
theorem gl_heard_InvalidText : (defScope sheard).names.lookup ("InvalidText" : Str) = some .globalImplicit := by decide +kernel
theorem gl_heard_Store : (defScope sheard).names.lookup ("Store" : Str) = some .globalImplicit := by decide +kernel
theorem gl_heard_isinstance : (defScope sheard).names.lookup ("isinstance" : Str) = some .globalImplicit := by decide +kernel
theorem gl_heard_str : (defScope sheard).names.lookup ("str" : Str) = some .globalImplicit := by decide +kernel
local macro_rules | `(tactic| walk_at "pd.nm") => `(tactic| first
  | ((with_reducible show ed _ (Expr.Name "_law_text" _) _ _ _); first | refine ed_nm v_heard_text rfl ?_ | refine ed_nmB (sc := defScope sheard) v_heard_text rfl ?_)
  | ((with_reducible show ed _ (Expr.Name "_law_found" _) _ _ _); first | refine ed_nm v_heard_found rfl ?_ | refine ed_nmB (sc := defScope sheard) v_heard_found rfl ?_)
  | ((with_reducible show ed _ (Expr.Name "e" _) _ _ _); first | refine ed_nm v_heard_e rfl ?_ | refine ed_nmB (sc := defScope sheard) v_heard_e rfl ?_)
  | ((with_reducible show ed _ (Expr.Name "EndError" _) _ _ _); refine ed_gref (g_EndError (by assumption)) ?_ (hg := by first | exact gl_of gl_heard_EndError))
  | ((with_reducible show ed _ (Expr.Name "InvalidStore" _) _ _ _); refine ed_gref (g_InvalidStore (by assumption)) ?_ (hg := by first | exact gl_of gl_heard_InvalidStore))
  | ((with_reducible show ed _ (Expr.Name "InvalidText" _) _ _ _); refine ed_gref (g_InvalidText (by assumption)) ?_ (hg := by first | exact gl_of gl_heard_InvalidText))
  | ((with_reducible show ed _ (Expr.Name "Store" _) _ _ _); refine ed_gref (g_Store (by assumption)) ?_ (hg := by first | exact gl_of gl_heard_Store))
  | ((with_reducible show ed _ (Expr.Name "str" _) _ _ _); refine ed_ty (n := "str") (b_str (by assumption)) bb_str ?_ (hg := by first | exact gl_of gl_heard_str))
  | fail)
local macro_rules | `(tactic| walk_at "pd.set") => `(tactic| first
  | ((with_reducible show sd _ (Stmt.Assign [Expr.Name "_law_found" _] _ _) _ _ _); refine sd_nm v_heard_found sc_heard.nd ?_)
  | fail)
local macro_rules | `(tactic| walk_at "pd.g") => `(tactic| first
  | ((with_reducible show gd _ (Expr.Name "_law_found" _) _ _ _ _); refine gd_nm v_heard_found sc_heard.nd ?_)
  | fail)
local macro_rules | `(tactic| walk_at "pd.call") => `(tactic| first
  | ((with_reducible show ed _ (Expr.Call (Expr.Attribute (Expr.Name "Store" _) "read" _) (_ :: _) _ _) _ _ _); refine ed_cmC (cm_Store_read (by assumption)) ((ok_Store_read (by assumption)).at_ _) (by assumption) (by decide) ?_)
  | ((with_reducible show ed _ (Expr.Call (Expr.Name "str" _) (_ :: _) _ _) _ _ _); refine ed_callTy (T := "str") (b_str (by assumption)) bb_str ?_ (hg := by first | exact gl_of gl_heard_str))
  | ((with_reducible show ed _ (Expr.Call (Expr.Name "isinstance" _) (_ :: _) _ _) _ _ _); refine ed_callB (id := "isinstance") (b_isinstance (by assumption)) bb_isinstance ?_ (hg := by first | exact gl_of gl_heard_isinstance))
  | fail)
local macro_rules | `(tactic| walk_at "pd.it") => `(tactic| first
  | ((with_reducible show eid _ _ _ _ _ _); refine eid_of ?_)
  | fail)
local macro_rules | `(tactic| walk_at "pd.try") => `(tactic| first
  | ((with_reducible show sd _ (Stmt.Try _ [ExceptHandler.ExceptHandler (some (Expr.Name "InvalidText" _)) (some "e") _ _] _ _ _) _ _ _); refine sd_try_as (i := 2) (c := .ref (He.ga _ "InvalidText")) rfl rfl sc_heard.nd rfl rfl ⟨gl_of gl_heard_InvalidText, by decide +kernel, .inl (g_InvalidText (by assumption))⟩ ?_)
  | fail)
theorem ok_heard (T : T0 w K mg) : CallF P w K mg base 9 (He.ga K "_law_heard") 1 [] spHeardS := by
  obtain ⟨fd, F⟩ := f_heard T
  refine CallF.mk0 (ps := ["_law_text"]) F (fun _ _ _ _ _ _ us hl => match us, hl with | [_], _ => rfl) (fnD_of F sc_heard fun cdv A outer s H F0 μ ds Qd Ed hr hl h => ?_)
  obtain ⟨t, rfl, ht, hE, hQ⟩ := h
  show sds _ _ [some (.str t), none, none] _ _
  refine sds_cons ?_
  walk_at "pd"
  intro F1 μ1 H1 pn xe tk po
  walk_at "pd"
  refine ⟨rfl, ?_⟩
  walk_at "pd"
  refine ⟨t, rfl, ht.n, ht.l, ht.e, fun j l h1 h2 h3 G => ?_, fun rs hrs => ?_⟩
  · refine ⟨true, xm_InvalidText_InvalidText T, fun _ => ?_, fun h => nomatch h⟩
    intro a oe d pn' F2 μ2 H2 hd
    refine sds_dropL (μa := G) ?_
    obtain ⟨dd, rfl⟩ : ∃ dd, d = some dd := by
      rcases hd.x with ⟨-, h, -⟩ | ⟨dd, _, rfl, _⟩
      · cases h
      · exact ⟨dd, rfl⟩
    have q := hE j l h1 h2 h3
    walk_at "pd"
    refine cld_isX hd (xc_InvalidText T) rfl (xk_InvalidText_EndError T) ?_
    walk_at "pd"
    refine cld_isX hd (xc_InvalidText T) rfl (xk_InvalidText_InvalidStore T) ?_
    walk_at "pd"
    refine ed_xf hd (xfC_of (xc_InvalidText T)) (xn_InvalidText T) rfl ?_
    walk_at "pd"
    refine ⟨rfl, ?_⟩
    walk_at "pd"
    exact q
  · obtain ⟨h1, h2, q⟩ := hQ rs hrs
    refine ⟨fun r hr => (h2 r hr).wn, ?_⟩
    walk_at "pd"
    refine cld_strOwn (strOwn_of (m_Store_str T)) rfl (ok_Store_str T) hr (by decide) ⟨rs, rfl, h1, h2, _, rfl, ?_⟩
    walk_at "pd"
    exact q
end
end
section
variable {P : Program} {w : World} {K : PySem.W.Frag} {mg : Str → Option Value} {base : Heap}
/-! ### the law k14, walked -/
theorem strOk_iff (x : Str) : PyData.strOk x = true ↔ ∀ c ∈ TL.tl x, c < 0x110000 := by
  unfold PyData.strOk TL.tl
  rw [← Array.all_toList, List.all_eq_true]
  exact ⟨fun h c hc => of_decide_eq_true (h c hc), fun h c hc => decide_eq_true (h c hc)⟩
theorem strOk_app {a b : Str} (ha : PyData.strOk a = true) (hb : PyData.strOk b = true) : PyData.strOk (a ++ b) = true := by
  rw [strOk_iff] at *
  intro c hc
  rw [TL.tl_append] at hc
  exact (List.mem_append.mp hc).elim (ha c) (hb c)
theorem strOk_join {y : Str} {l : List Str} (hy : PyData.strOk y = true) (hl : strsOk l) : PyData.strOk (Txt.join y l) = true := by
  rw [strOk_iff]
  intro c hc
  rw [TL.join_eq, TL.tl_join] at hc
  rcases joinL_mem _ _ _ hc with h | ⟨p, hp, h⟩
  · exact (strOk_iff y).mp hy c h
  · obtain ⟨x, hx, rfl⟩ := List.mem_map.mp hp
    exact (strOk_iff x).mp (hl x hx) c h
theorem rowText_ok {k : Str} {ts ws : List Str} {a : Bool} (G : RowG k ts ws a) : PyData.strOk (rowText k ts ws a) = true := by
  rw [text_cat]
  have h1 : PyData.strOk (catI ts) = true := by
    unfold catI; split
    · decide +kernel
    · exact strOk_app (by decide +kernel) (strOk_join (by decide +kernel) G.tso)
  have h2 : PyData.strOk (catD ws) = true := by
    unfold catD; split
    · decide +kernel
    · exact strOk_app (by decide +kernel) (strOk_join (by decide +kernel) G.wso)
  exact strOk_app (strOk_app (strOk_app (kinds_okS _ G.ok.kd) h1) h2) (by cases a <;> decide +kernel)
structure Sm (r : Rw) : Prop where
  ok : r.ok
  n : r.txt.length ≤ 86
theorem rws_of {acc : List D} (h : ∀ d ∈ acc, ∃ r, d = rwT r ∧ Sm r) : ∃ rs : List Rw, acc = rs.map rwT ∧ ∀ r ∈ rs, Sm r := by
  induction acc with
  | nil => exact ⟨[], rfl, fun _ h => (List.not_mem_nil h).elim⟩
  | cons d acc ih =>
    obtain ⟨rs, e, hs⟩ := ih fun x hx => h x (List.mem_cons_of_mem _ hx)
    obtain ⟨r, e2, hr⟩ := h d List.mem_cons_self
    exact ⟨r :: rs, by rw [e, e2]; rfl, fun x hx => (List.mem_cons.mp hx).elim (fun e => e ▸ hr) (hs x)⟩
structure LnOk (ls : List Str) : Prop where
  ne : ls ≠ []
  n : ls.length ≤ 9
  e : ∀ l ∈ ls, 10 ∉ TL.tl l ∧ l.length ≤ 86
  z : ls ≠ [Str.ofString ""]
theorem LnOk.lines {ls : List Str} (h : LnOk ls) : linesOf (Txt.join "\n" ls) = ls := linesOf_join h.ne (fun l hl => (h.e l hl).1) h.z
theorem LnOk.len {ls : List Str} (h : LnOk ls) : (Txt.join "\n" ls).length ≤ 900 := by
  have := join_le (w := "\n") (n := 86) (c := 9) h.ne (fun u hu => (h.e u hu).2) h.n
  have e : (Str.ofString "\n").length = 1 := by decide
  rw [e] at this; omega
theorem LnOk.txt {ls : List Str} (h : LnOk ls) : TxtOk (Txt.join "\n" ls) := by
  have := h.len
  refine ⟨by omega, ?_, ?_⟩
  · rw [h.lines]; have := h.n; omega
  · rw [h.lines]; intro l hl; have := (h.e l hl).2; omega
theorem LnOk.sum {ls : List Str} (h : LnOk ls) : (ls.map (·.length)).sum + ls.length ≤ 900 := by
  have h1 := h.n
  have h2 : (ls.map (·.length)).sum ≤ ls.length * 86 := by
    have h3 := fun l hl => (h.e l hl).2
    clear h h1
    induction ls with
    | nil => simp
    | cons x l ih =>
      have := ih fun u hu => h3 u (List.mem_cons_of_mem _ hu)
      have := h3 x List.mem_cons_self
      rw [List.map_cons, List.sum_cons, List.length_cons]; omega
  omega
theorem ln_rows {rs : List Rw} (h : ∀ r ∈ rs, Sm r) (hne : rs ≠ []) (hn : rs.length ≤ 9) : LnOk (rs.map Rw.txt) := by
  refine ⟨by simpa using hne, by rw [List.length_map]; exact hn, fun l hl => ?_, fun e => ?_⟩
  · obtain ⟨r, hr, rfl⟩ := List.mem_map.mp hl
    exact ⟨row_nl (h r hr).ok, (h r hr).n⟩
  · cases rs with
    | nil => exact hne rfl
    | cons r rs =>
      have e : r.txt = Str.ofString "" := (List.cons.inj e).1
      exact row_ne (h r List.mem_cons_self).ok e
def oddS : List Str := ["", "new", "new  yes", "join if points yes", "back do move yes", "rows", "sweep do bare no"]
theorem oddS_none : ∀ t ∈ oddS, readP t = none ∧ 10 ∉ TL.tl t ∧ t.length ≤ 86 := by decide +kernel
theorem new_none : readP "new" = none ∧ 10 ∉ TL.tl "new" ∧ (Str.ofString "new").length ≤ 86 := by decide +kernel
theorem read_good {K : PySem.W.Frag} {μ : Mu} {Q : D → Mu → Prop} {E : Value → List Str → List D → Mu → Prop} {t : Str} {rs : List Rw} (hl : linesOf t = rs.map Rw.txt) (ht : TxtOk t) (hok : ∀ r ∈ rs, r.ok) (q : Q (storeD K rs) μ) : spStoreReadX K [.ref (He.ga K "Store"), .str t] μ Q E := by
  refine ⟨t, rfl, ht.n, ht.l, ht.e, fun j l h1 h2 h3 G => absurd h2 ?_, fun rs' hrs' => ?_⟩
  · rw [hl] at h1
    obtain ⟨r, hr1, rfl⟩ := List.mem_map.mp (List.mem_of_getElem? h1)
    rw [read_own (hok r hr1)]
    exact fun h => nomatch h
  rw [hl, lines_all hok] at hrs'
  obtain rfl := some_inj hrs'
  exact ⟨fun r hr => (hok r hr).wn, q⟩
theorem heard_good {μ : Mu} {Q : D → Mu → Prop} {E : Value → List Str → List D → Mu → Prop} {t : Str} {rs : List Rw} (hl : linesOf t = rs.map Rw.txt) (ht : TxtOk t) (hok : ∀ r ∈ rs, r.ok) (q : Q (.str (storeTxt rs)) μ) : spHeardS [.str t] μ Q E := by
  refine ⟨t, rfl, ht, fun j l h1 h2 h3 => absurd h2 ?_, fun rs' hrs' => ?_⟩
  · rw [hl] at h1
    obtain ⟨r, hr1, rfl⟩ := List.mem_map.mp (List.mem_of_getElem? h1)
    rw [read_own (hok r hr1)]
    exact fun h => nomatch h
  rw [hl, lines_all hok] at hrs'
  obtain rfl := some_inj hrs'
  have := ht.l
  rw [hl, List.length_map] at this
  exact ⟨this, hok, q⟩
theorem heard_bad {μ : Mu} {Q : D → Mu → Prop} {E : Value → List Str → List D → Mu → Prop} {t x : Str} {pre post : List Str} (hl : linesOf t = pre ++ x :: post) (ht : TxtOk t) (hp : ∀ l ∈ pre, (readP l).isSome = true) (hx : readP x = none) (q : Q (.int (pre.length : Int)) μ) : spHeardS [.str t] μ Q E := by
  refine ⟨t, rfl, ht, fun j l h1 h2 h3 => ?_, fun rs' hrs' => ?_⟩
  · rw [hl] at h1 h3
    rw [first_bad hp hx h1 h2 h3]
    exact q
  · rw [hl] at hrs'
    exact (bad_none hx hrs').elim
section
abbrev N_law : List Str := ["_law_script", "_law_deal_here", "_law_turn", "_law_rows", "_law_k", "_law_lines", "_law_row", "_law_store_here", "_law_at", "_law_some", "_law_odd", "_law_spot", "_law_wrong"]
theorem sc_law : FnScope N_law ["_law_script"] (defScope slaw) := ⟨rfl, rfl, rfl, by decide +kernel, rfl, by decide +kernel, by decide +kernel⟩
theorem v_law_script : Nm N_law (defScope slaw) 0 "_law_script" := ⟨rfl, by decide +kernel, by decide +kernel, by decide +kernel⟩
theorem v_law_deal_here : Nm N_law (defScope slaw) 1 "_law_deal_here" := ⟨rfl, by decide +kernel, by decide +kernel, by decide +kernel⟩
theorem v_law_turn : Nm N_law (defScope slaw) 2 "_law_turn" := ⟨rfl, by decide +kernel, by decide +kernel, by decide +kernel⟩
theorem v_law_rows : Nm N_law (defScope slaw) 3 "_law_rows" := ⟨rfl, by decide +kernel, by decide +kernel, by decide +kernel⟩
theorem w_law_k : NmB N_law 4 "_law_k" := ⟨rfl, by decide +kernel, by decide +kernel⟩
theorem v_law_lines : Nm N_law (defScope slaw) 5 "_law_lines" := ⟨rfl, by decide +kernel, by decide +kernel, by decide +kernel⟩
theorem w_law_row : NmB N_law 6 "_law_row" := ⟨rfl, by decide +kernel, by decide +kernel⟩
theorem v_law_store_here : Nm N_law (defScope slaw) 7 "_law_store_here" := ⟨rfl, by decide +kernel, by decide +kernel, by decide +kernel⟩
theorem v_law_at : Nm N_law (defScope slaw) 8 "_law_at" := ⟨rfl, by decide +kernel, by decide +kernel, by decide +kernel⟩
theorem v_law_some : Nm N_law (defScope slaw) 9 "_law_some" := ⟨rfl, by decide +kernel, by decide +kernel, by decide +kernel⟩
theorem v_law_odd : Nm N_law (defScope slaw) 10 "_law_odd" := ⟨rfl, by decide +kernel, by decide +kernel, by decide +kernel⟩
theorem v_law_spot : Nm N_law (defScope slaw) 11 "_law_spot" := ⟨rfl, by decide +kernel, by decide +kernel, by decide +kernel⟩
theorem v_law_wrong : Nm N_law (defScope slaw) 12 "_law_wrong" := ⟨rfl, by decide +kernel, by decide +kernel, by decide +kernel⟩
theorem gl_law_Store : (defScope slaw).names.lookup ("Store" : Str) = some .globalImplicit := by decide +kernel
theorem gl_law_deal : (defScope slaw).names.lookup ("_law_deal" : Str) = some .globalImplicit := by decide +kernel
theorem gl_law_draw : (defScope slaw).names.lookup ("_law_draw" : Str) = some .globalImplicit := by decide +kernel
theorem gl_law_heard : (defScope slaw).names.lookup ("_law_heard" : Str) = some .globalImplicit := by decide +kernel
theorem gl_law_pick : (defScope slaw).names.lookup ("_law_pick" : Str) = some .globalImplicit := by decide +kernel
theorem gl_law_store : (defScope slaw).names.lookup ("_law_store" : Str) = some .globalImplicit := by decide +kernel
theorem gl_law_len : (defScope slaw).names.lookup ("len" : Str) = some .globalImplicit := by decide +kernel
theorem gl_law_range : (defScope slaw).names.lookup ("range" : Str) = some .globalImplicit := by decide +kernel
theorem gl_law_str : (defScope slaw).names.lookup ("str" : Str) = some .globalImplicit := by decide +kernel
-- _law_deal_here is a cell
theorem sl_law_turn : (defScope slaw).names.lookup ("_law_turn" : Str) = some .local := by decide +kernel
theorem sl_law_rows : (defScope slaw).names.lookup ("_law_rows" : Str) = some .local := by decide +kernel
theorem sl_law_lines : (defScope slaw).names.lookup ("_law_lines" : Str) = some .local := by decide +kernel
theorem sl_law_store_here : (defScope slaw).names.lookup ("_law_store_here" : Str) = some .local := by decide +kernel
theorem sl_law_at : (defScope slaw).names.lookup ("_law_at" : Str) = some .local := by decide +kernel
theorem sl_law_some : (defScope slaw).names.lookup ("_law_some" : Str) = some .local := by decide +kernel
theorem sl_law_odd : (defScope slaw).names.lookup ("_law_odd" : Str) = some .local := by decide +kernel
theorem sl_law_spot : (defScope slaw).names.lookup ("_law_spot" : Str) = some .local := by decide +kernel
theorem sl_law_wrong : (defScope slaw).names.lookup ("_law_wrong" : Str) = some .local := by decide +kernel
local macro_rules | `(tactic| walk_at "pd.nm") => `(tactic| first
  | ((with_reducible show ed _ (Expr.Name "_law_script" _) _ _ _); first | refine ed_nm v_law_script rfl ?_ | refine ed_nmB (sc := defScope slaw) v_law_script rfl ?_)
  | ((with_reducible show ed _ (Expr.Name "_law_deal_here" _) _ _ _); first | refine ed_nm v_law_deal_here rfl ?_ | refine ed_nmB (sc := defScope slaw) v_law_deal_here rfl ?_)
  | ((with_reducible show ed _ (Expr.Name "_law_turn" _) _ _ _); first | refine ed_nm v_law_turn rfl ?_ | refine ed_nmB (sc := defScope slaw) v_law_turn rfl ?_)
  | ((with_reducible show ed _ (Expr.Name "_law_rows" _) _ _ _); first | refine ed_nm v_law_rows rfl ?_ | refine ed_nmB (sc := defScope slaw) v_law_rows rfl ?_)
  | ((with_reducible show ed _ (Expr.Name "_law_k" _) _ _ _); refine ed_nmC (sc := defScope slaw) w_law_k rfl ?_)
  | ((with_reducible show ed _ (Expr.Name "_law_lines" _) _ _ _); first | refine ed_nm v_law_lines rfl ?_ | refine ed_nmB (sc := defScope slaw) v_law_lines rfl ?_)
  | ((with_reducible show ed _ (Expr.Name "_law_row" _) _ _ _); refine ed_nmC (sc := defScope slaw) w_law_row rfl ?_)
  | ((with_reducible show ed _ (Expr.Name "_law_store_here" _) _ _ _); first | refine ed_nm v_law_store_here rfl ?_ | refine ed_nmB (sc := defScope slaw) v_law_store_here rfl ?_)
  | ((with_reducible show ed _ (Expr.Name "_law_at" _) _ _ _); first | refine ed_nm v_law_at rfl ?_ | refine ed_nmB (sc := defScope slaw) v_law_at rfl ?_)
  | ((with_reducible show ed _ (Expr.Name "_law_some" _) _ _ _); first | refine ed_nm v_law_some rfl ?_ | refine ed_nmB (sc := defScope slaw) v_law_some rfl ?_)
  | ((with_reducible show ed _ (Expr.Name "_law_odd" _) _ _ _); first | refine ed_nm v_law_odd rfl ?_ | refine ed_nmB (sc := defScope slaw) v_law_odd rfl ?_)
  | ((with_reducible show ed _ (Expr.Name "_law_spot" _) _ _ _); first | refine ed_nm v_law_spot rfl ?_ | refine ed_nmB (sc := defScope slaw) v_law_spot rfl ?_)
  | ((with_reducible show ed _ (Expr.Name "_law_wrong" _) _ _ _); first | refine ed_nm v_law_wrong rfl ?_ | refine ed_nmB (sc := defScope slaw) v_law_wrong rfl ?_)
  | ((with_reducible show ed _ (Expr.Name "Store" _) _ _ _); refine ed_gref (g_Store (by assumption)) ?_ (hg := by first | exact gl_of gl_law_Store | exact glB_of (sc := defScope slaw)))
  | ((with_reducible show ed _ (Expr.Name "range" _) _ _ _); refine ed_ty (n := "range") (b_range (by assumption)) bb_range ?_ (hg := by first | exact gl_of gl_law_range | exact glB_of (sc := defScope slaw)))
  | ((with_reducible show ed _ (Expr.Name "str" _) _ _ _); refine ed_ty (n := "str") (b_str (by assumption)) bb_str ?_ (hg := by first | exact gl_of gl_law_str | exact glB_of (sc := defScope slaw)))
  | fail)
local macro_rules | `(tactic| walk_at "pd.set") => `(tactic| first
  | ((with_reducible show sd _ (Stmt.Assign [Expr.Name "_law_turn" _] (Expr.ListComp _ _ _ _) _) _ _ _); refine sd_setLc (own := [("_law_k", 4)]) (i := 2) rfl sc_law.nd rfl (by exact sl_law_turn) (sw_true rfl (by exact sl_law_turn) rfl (by decide +kernel)) (blkOk_by (N := N_law) (sc := defScope slaw) (by decide +kernel)) ?_)
  | ((with_reducible show sd _ (Stmt.Assign [Expr.Name "_law_turn" _] (Expr.ListComp _ _ _ _) _) _ _ _); refine sd_setLc (own := [("_law_row", 6)]) (i := 2) rfl sc_law.nd rfl (by exact sl_law_turn) (sw_true rfl (by exact sl_law_turn) rfl (by decide +kernel)) (blkOk_by (N := N_law) (sc := defScope slaw) (by decide +kernel)) ?_)
  | ((with_reducible show sd _ (Stmt.Assign [Expr.Name "_law_rows" _] (Expr.ListComp _ _ _ _) _) _ _ _); refine sd_setLc (own := [("_law_k", 4)]) (i := 3) rfl sc_law.nd rfl (by exact sl_law_rows) (sw_true rfl (by exact sl_law_rows) rfl (by decide +kernel)) (blkOk_by (N := N_law) (sc := defScope slaw) (by decide +kernel)) ?_)
  | ((with_reducible show sd _ (Stmt.Assign [Expr.Name "_law_rows" _] (Expr.ListComp _ _ _ _) _) _ _ _); refine sd_setLc (own := [("_law_row", 6)]) (i := 3) rfl sc_law.nd rfl (by exact sl_law_rows) (sw_true rfl (by exact sl_law_rows) rfl (by decide +kernel)) (blkOk_by (N := N_law) (sc := defScope slaw) (by decide +kernel)) ?_)
  | ((with_reducible show sd _ (Stmt.Assign [Expr.Name "_law_lines" _] (Expr.ListComp _ _ _ _) _) _ _ _); refine sd_setLc (own := [("_law_k", 4)]) (i := 5) rfl sc_law.nd rfl (by exact sl_law_lines) (sw_true rfl (by exact sl_law_lines) rfl (by decide +kernel)) (blkOk_by (N := N_law) (sc := defScope slaw) (by decide +kernel)) ?_)
  | ((with_reducible show sd _ (Stmt.Assign [Expr.Name "_law_lines" _] (Expr.ListComp _ _ _ _) _) _ _ _); refine sd_setLc (own := [("_law_row", 6)]) (i := 5) rfl sc_law.nd rfl (by exact sl_law_lines) (sw_true rfl (by exact sl_law_lines) rfl (by decide +kernel)) (blkOk_by (N := N_law) (sc := defScope slaw) (by decide +kernel)) ?_)
  | ((with_reducible show sd _ (Stmt.Assign [Expr.Name "_law_store_here" _] (Expr.ListComp _ _ _ _) _) _ _ _); refine sd_setLc (own := [("_law_k", 4)]) (i := 7) rfl sc_law.nd rfl (by exact sl_law_store_here) (sw_true rfl (by exact sl_law_store_here) rfl (by decide +kernel)) (blkOk_by (N := N_law) (sc := defScope slaw) (by decide +kernel)) ?_)
  | ((with_reducible show sd _ (Stmt.Assign [Expr.Name "_law_store_here" _] (Expr.ListComp _ _ _ _) _) _ _ _); refine sd_setLc (own := [("_law_row", 6)]) (i := 7) rfl sc_law.nd rfl (by exact sl_law_store_here) (sw_true rfl (by exact sl_law_store_here) rfl (by decide +kernel)) (blkOk_by (N := N_law) (sc := defScope slaw) (by decide +kernel)) ?_)
  | ((with_reducible show sd _ (Stmt.Assign [Expr.Name "_law_at" _] (Expr.ListComp _ _ _ _) _) _ _ _); refine sd_setLc (own := [("_law_k", 4)]) (i := 8) rfl sc_law.nd rfl (by exact sl_law_at) (sw_true rfl (by exact sl_law_at) rfl (by decide +kernel)) (blkOk_by (N := N_law) (sc := defScope slaw) (by decide +kernel)) ?_)
  | ((with_reducible show sd _ (Stmt.Assign [Expr.Name "_law_at" _] (Expr.ListComp _ _ _ _) _) _ _ _); refine sd_setLc (own := [("_law_row", 6)]) (i := 8) rfl sc_law.nd rfl (by exact sl_law_at) (sw_true rfl (by exact sl_law_at) rfl (by decide +kernel)) (blkOk_by (N := N_law) (sc := defScope slaw) (by decide +kernel)) ?_)
  | ((with_reducible show sd _ (Stmt.Assign [Expr.Name "_law_some" _] (Expr.ListComp _ _ _ _) _) _ _ _); refine sd_setLc (own := [("_law_k", 4)]) (i := 9) rfl sc_law.nd rfl (by exact sl_law_some) (sw_true rfl (by exact sl_law_some) rfl (by decide +kernel)) (blkOk_by (N := N_law) (sc := defScope slaw) (by decide +kernel)) ?_)
  | ((with_reducible show sd _ (Stmt.Assign [Expr.Name "_law_some" _] (Expr.ListComp _ _ _ _) _) _ _ _); refine sd_setLc (own := [("_law_row", 6)]) (i := 9) rfl sc_law.nd rfl (by exact sl_law_some) (sw_true rfl (by exact sl_law_some) rfl (by decide +kernel)) (blkOk_by (N := N_law) (sc := defScope slaw) (by decide +kernel)) ?_)
  | ((with_reducible show sd _ (Stmt.Assign [Expr.Name "_law_odd" _] (Expr.ListComp _ _ _ _) _) _ _ _); refine sd_setLc (own := [("_law_k", 4)]) (i := 10) rfl sc_law.nd rfl (by exact sl_law_odd) (sw_true rfl (by exact sl_law_odd) rfl (by decide +kernel)) (blkOk_by (N := N_law) (sc := defScope slaw) (by decide +kernel)) ?_)
  | ((with_reducible show sd _ (Stmt.Assign [Expr.Name "_law_odd" _] (Expr.ListComp _ _ _ _) _) _ _ _); refine sd_setLc (own := [("_law_row", 6)]) (i := 10) rfl sc_law.nd rfl (by exact sl_law_odd) (sw_true rfl (by exact sl_law_odd) rfl (by decide +kernel)) (blkOk_by (N := N_law) (sc := defScope slaw) (by decide +kernel)) ?_)
  | ((with_reducible show sd _ (Stmt.Assign [Expr.Name "_law_spot" _] (Expr.ListComp _ _ _ _) _) _ _ _); refine sd_setLc (own := [("_law_k", 4)]) (i := 11) rfl sc_law.nd rfl (by exact sl_law_spot) (sw_true rfl (by exact sl_law_spot) rfl (by decide +kernel)) (blkOk_by (N := N_law) (sc := defScope slaw) (by decide +kernel)) ?_)
  | ((with_reducible show sd _ (Stmt.Assign [Expr.Name "_law_spot" _] (Expr.ListComp _ _ _ _) _) _ _ _); refine sd_setLc (own := [("_law_row", 6)]) (i := 11) rfl sc_law.nd rfl (by exact sl_law_spot) (sw_true rfl (by exact sl_law_spot) rfl (by decide +kernel)) (blkOk_by (N := N_law) (sc := defScope slaw) (by decide +kernel)) ?_)
  | ((with_reducible show sd _ (Stmt.Assign [Expr.Name "_law_wrong" _] (Expr.ListComp _ _ _ _) _) _ _ _); refine sd_setLc (own := [("_law_k", 4)]) (i := 12) rfl sc_law.nd rfl (by exact sl_law_wrong) (sw_true rfl (by exact sl_law_wrong) rfl (by decide +kernel)) (blkOk_by (N := N_law) (sc := defScope slaw) (by decide +kernel)) ?_)
  | ((with_reducible show sd _ (Stmt.Assign [Expr.Name "_law_wrong" _] (Expr.ListComp _ _ _ _) _) _ _ _); refine sd_setLc (own := [("_law_row", 6)]) (i := 12) rfl sc_law.nd rfl (by exact sl_law_wrong) (sw_true rfl (by exact sl_law_wrong) rfl (by decide +kernel)) (blkOk_by (N := N_law) (sc := defScope slaw) (by decide +kernel)) ?_)
  | ((with_reducible show sd _ (Stmt.Assign [Expr.Name "_law_deal_here" _] _ _) _ _ _); refine sd_nm v_law_deal_here sc_law.nd ?_)
  | ((with_reducible show sd _ (Stmt.Assign [Expr.Name "_law_turn" _] _ _) _ _ _); refine sd_nm v_law_turn sc_law.nd ?_)
  | ((with_reducible show sd _ (Stmt.Assign [Expr.Name "_law_rows" _] _ _) _ _ _); refine sd_nm v_law_rows sc_law.nd ?_)
  | ((with_reducible show sd _ (Stmt.Assign [Expr.Name "_law_lines" _] _ _) _ _ _); refine sd_nm v_law_lines sc_law.nd ?_)
  | ((with_reducible show sd _ (Stmt.Assign [Expr.Name "_law_store_here" _] _ _) _ _ _); refine sd_nm v_law_store_here sc_law.nd ?_)
  | ((with_reducible show sd _ (Stmt.Assign [Expr.Name "_law_at" _] _ _) _ _ _); refine sd_nm v_law_at sc_law.nd ?_)
  | ((with_reducible show sd _ (Stmt.Assign [Expr.Name "_law_some" _] _ _) _ _ _); refine sd_nm v_law_some sc_law.nd ?_)
  | ((with_reducible show sd _ (Stmt.Assign [Expr.Name "_law_odd" _] _ _) _ _ _); refine sd_nm v_law_odd sc_law.nd ?_)
  | ((with_reducible show sd _ (Stmt.Assign [Expr.Name "_law_spot" _] _ _) _ _ _); refine sd_nm v_law_spot sc_law.nd ?_)
  | ((with_reducible show sd _ (Stmt.Assign [Expr.Name "_law_wrong" _] _ _) _ _ _); refine sd_nm v_law_wrong sc_law.nd ?_)
  | fail)
local macro_rules | `(tactic| walk_at "pd.g") => `(tactic| first
  | ((with_reducible show gd _ (Expr.Name "_law_deal_here" _) _ _ _ _); refine gd_nm v_law_deal_here sc_law.nd ?_)
  | ((with_reducible show gd _ (Expr.Name "_law_turn" _) _ _ _ _); refine gd_nm v_law_turn sc_law.nd ?_)
  | ((with_reducible show gd _ (Expr.Name "_law_rows" _) _ _ _ _); refine gd_nm v_law_rows sc_law.nd ?_)
  | ((with_reducible show gv _ (Expr.Name "_law_k" _) _ _ _ _ _); refine gv_nmC (sc := defScope slaw) w_law_k sc_law.nd (by decide) ?_)
  | ((with_reducible show gd _ (Expr.Name "_law_lines" _) _ _ _ _); refine gd_nm v_law_lines sc_law.nd ?_)
  | ((with_reducible show gv _ (Expr.Name "_law_row" _) _ _ _ _ _); refine gv_nmC (sc := defScope slaw) w_law_row sc_law.nd (by decide) ?_)
  | ((with_reducible show gd _ (Expr.Name "_law_store_here" _) _ _ _ _); refine gd_nm v_law_store_here sc_law.nd ?_)
  | ((with_reducible show gd _ (Expr.Name "_law_at" _) _ _ _ _); refine gd_nm v_law_at sc_law.nd ?_)
  | ((with_reducible show gd _ (Expr.Name "_law_some" _) _ _ _ _); refine gd_nm v_law_some sc_law.nd ?_)
  | ((with_reducible show gd _ (Expr.Name "_law_odd" _) _ _ _ _); refine gd_nm v_law_odd sc_law.nd ?_)
  | ((with_reducible show gd _ (Expr.Name "_law_spot" _) _ _ _ _); refine gd_nm v_law_spot sc_law.nd ?_)
  | ((with_reducible show gd _ (Expr.Name "_law_wrong" _) _ _ _ _); refine gd_nm v_law_wrong sc_law.nd ?_)
  | fail)
local macro_rules | `(tactic| walk_at "pd.call") => `(tactic| first
  | ((with_reducible show ed _ (Expr.Call (Expr.Attribute (Expr.Name "Store" _) "read" _) (_ :: _) _ _) _ _ _); refine ed_cmC (cm_Store_read (by assumption)) ((ok_Store_read (by assumption)).at_ _) (by assumption) (by decide) ?_)
  | ((with_reducible show ed _ (Expr.Call (Expr.Name "_law_deal" _) (_ :: _) _ _) _ _ _); refine ed_callC ((ok_deal (by assumption)).at_ _) (by assumption) (by decide) (g_deal (by assumption)) ?_ (hg := by first | exact gl_of gl_law_deal))
  | ((with_reducible show ed _ (Expr.Call (Expr.Name "_law_store" _) (_ :: _) _ _) _ _ _); refine ed_callC ((ok_store (by assumption)).at_ _) (by assumption) (by decide) (g_store (by assumption)) ?_ (hg := by first | exact gl_of gl_law_store))
  | ((with_reducible show ed _ (Expr.Call (Expr.Name "_law_draw" _) (_ :: _) _ _) _ _ _); refine ed_callC ((ok_draw (by assumption)).at_ _) (by assumption) (by decide) (g_draw (by assumption)) ?_ (hg := by first | exact gl_of gl_law_draw | exact glB_of (sc := defScope slaw)))
  | ((with_reducible show ed _ (Expr.Call (Expr.Name "_law_any_row" _) (_ :: _) _ _) _ _ _); refine ed_callC ((ok_any_row (by assumption)).at_ _) (by assumption) (by decide) (g_any_row (by assumption)) ?_ (hg := by first | exact glB_of (sc := defScope slaw)))
  | ((with_reducible show ed _ (Expr.Call (Expr.Name "_law_row_text" _) (_ :: _) _ _) _ _ _); refine ed_callC ((ok_row_text (by assumption)).at_ _) (by assumption) (by decide) (g_row_text (by assumption)) ?_ (hg := by first | exact glB_of (sc := defScope slaw)))
  | ((with_reducible show ed _ (Expr.Call (Expr.Name "len" _) (_ :: _) _ _) _ _ _); refine ed_callB (id := "len") (b_len (by assumption)) bb_len ?_ (hg := by first | exact gl_of gl_law_len))
  | ((with_reducible show ed _ (Expr.Call (Expr.Name "_law_heard" _) (_ :: _) _ _) _ _ _); refine ed_callC ((ok_heard (by assumption)).at_ _) (by assumption) (by decide) (g_heard (by assumption)) ?_ (hg := by first | exact gl_of gl_law_heard))
  | ((with_reducible show ed _ (Expr.Call (Expr.Name "str" _) (_ :: _) _ _) _ _ _); refine ed_callTy (T := "str") (b_str (by assumption)) bb_str ?_ (hg := by first | exact gl_of gl_law_str | exact glB_of (sc := defScope slaw)))
  | ((with_reducible show ed _ (Expr.Call (Expr.Name "Store" _) [] _ _) _ _ _); refine ed_makeC0 (mk_Store_0 (by assumption)) (by assumption) (by decide) (g_Store (by assumption)) ?_ (hg := by first | exact gl_of gl_law_Store | exact glB_of (sc := defScope slaw)))
  | ((with_reducible show ed _ (Expr.Call (Expr.Attribute _ "join" _) (_ :: _) _ _) _ _ _); with_reducible refine ed_bm PySem.F.plainAttrs_str PySem.F.slot_str_join PySem.F.type_str_join ?_)
  | ((with_reducible show ed _ (Expr.Call (Expr.Name "Store" _) [] _ _) _ _ _); refine ed_makeC0 (mk_Store_0 (by assumption)) (by assumption) (by decide) (g_Store (by assumption)) ?_ (hg := by first | exact gl_of gl_law_Store | exact glB_of (sc := defScope slaw)))
  | ((with_reducible show ed _ (Expr.Call (Expr.Name "_law_pick" _) (_ :: _) _ _) _ _ _); refine ed_callC ((ok_pick (by assumption)).at_ _) (by assumption) (by decide) (g_pick (by assumption)) ?_ (hg := by first | exact gl_of gl_law_pick))
  | fail)
local macro_rules | `(tactic| walk_at "pd.lc") => `(tactic| first
  | ((with_reducible show ed _ (Expr.ListComp _ [_] _ _) _ _ _); refine ed_lc (own := [("_law_k", 4)]) [("_law_k", 4)] rfl rfl sc_law.nd (blkOk_by (N := N_law) (sc := defScope slaw) (by decide +kernel)) ?_)
  | ((with_reducible show ed _ (Expr.ListComp _ [_] _ _) _ _ _); refine ed_lc (own := [("_law_row", 6)]) [("_law_row", 6)] rfl rfl sc_law.nd (blkOk_by (N := N_law) (sc := defScope slaw) (by decide +kernel)) ?_)
  | fail)
local macro_rules | `(tactic| walk_at "pd.it") => `(tactic| first
  | ((with_reducible show eid _ _ (Expr.Call (Expr.Name "range" _) [_] _ _) _ _ _); refine eid_range (b_range (by assumption)) ?_ (hg := by first | exact gl_of gl_law_range | exact glB_of (sc := defScope slaw)))
  | ((with_reducible show eid _ _ (Expr.Call (Expr.Name "range" _) [_, _] _ _) _ _ _); refine eid_range2 (b_range (by assumption)) ?_ (hg := by first | exact gl_of gl_law_range | exact glB_of (sc := defScope slaw)))
  | ((with_reducible show eid _ _ _ _ _ _); refine eid_of ?_)
  | fail)
local macro_rules | `(tactic| walk_at "pd.fld") => `(tactic| first
  | ((with_reducible show ed _ (Expr.Attribute _ "rows" _) _ _ _); first | (refine ed_fld (c_Course (by assumption)) (n_Course_rows (by assumption)) ?_; walk_at "pdF"; walk_at "pd.fldX") | (refine ed_fld (c_Store (by assumption)) (n_Store_rows (by assumption)) ?_; walk_at "pdF"; walk_at "pd.fldX"))
  | fail)
theorem ok_law (T : T0 w K mg) {fd : FuncData} (F : FunD K "law" "law" (defArgs slaw) (defBody slaw) (defScope slaw) (dlaw.dvs K) (dlaw.kws K) (He.fAd K dlaw.at_) fd) : FnD false P w K mg base 10 (He.ga K "law") fd ["_law_script"] spLaw := by
  refine fnD_of F sc_law fun cdv A outer s H F0 μ ds Qd Ed hr hl h => ?_
  obtain ⟨ns, rfl, rfl, hn, -, q⟩ := h
  have hu := hr.units
  show sds _ _ (some (.rl (ns.map .int)) :: List.replicate 12 none) _ _
  refine sds_cons ?_
  walk_at "pd"
  refine ⟨ns, 0, rfl, by decide, by decide, hn, fun p q' μ1 hD => ?_⟩
  walk_at "pdS"
  refine sds_cons ?_
  refine sd_for rfl ?_
  walk_at "pd"
  refine ⟨5, rfl, by decide, by decide, fun i δ' μ' => ∃ x2 x3 x4 x5 x6 x7 x8 x9 x10 x11 x12, δ' = [some (.rl (ns.map .int)), some (.ref p), x2, x3, x4, x5, x6, x7, x8, x9, x10, x11, x12] ∧ Deal p q' [] μ',
    ⟨_, _, _, _, _, _, _, _, _, _, _, rfl, hD⟩, fun _ _ _ _ _ => trivial, ?_, ?_⟩
  · rintro i d δ' μ' hd ⟨x2, x3, x4, x5, x6, x7, x8, x9, x10, x11, x12, rfl, hD⟩
    walk_at "pd"
    refine lcd_allN (Deal p q' []) (fun d => ∃ r, d = rwT r ∧ Sm r) ?_
    walk_at "pd"
    refine ⟨p, q', [], 6, rfl, hD, by decide, by decide, fun r2 μ5 r3 r4 hD5 => ?_⟩
    walk_at "pd"
    refine ⟨1 + r2, rfl, by omega, by omega, by rw [List.length_map, List.length_range]; omega, hD5, fun _ _ => trivial, fun d hd μ6 hD6 => ?_, fun acc μ6 hacc hlen hD6 => ?_⟩
    · walk_at "pd"
      refine ⟨rfl, ?_⟩
      walk_at "pd"
      refine ⟨p, q', [], 2, 3, rfl, hD6, by decide, by decide, by decide, by decide, fun k ts ws a μ2 R h1 h2 hD2 => ?_⟩
      have G : RowG k ts ws a := ⟨R, by omega, by omega⟩
      exact ⟨⟨⟨k, ts, ws, a⟩, rfl, G, row_len R (by show ts.length ≤ 2; omega) (by show ws.length ≤ 3; omega)⟩, hD2⟩
    rw [List.length_map, List.length_range] at hlen
    obtain ⟨rs, rfl, hrs⟩ := rws_of hacc
    rw [List.length_map] at hlen
    have hn6 : rs.length ≤ 6 := by omega
    have hne : rs ≠ [] := fun e => by rw [e] at hlen; simp at hlen; omega
    have hL := ln_rows hrs hne (by omega)
    clear hacc
    walk_at "pd"
    refine lcd_ix (fun μ' => μ' = μ6) ((rs.map Rw.txt).map .str) ?_
    walk_at "pd"
    refine ⟨by rw [List.length_map]; omega, by rw [List.length_map, List.length_map, List.length_map], rfl, fun _ _ => trivial, ?_, ?_⟩
    · rintro j d1 r1 μ' hd1 hr1 rfl
      rw [List.getElem?_map] at hd1 hr1
      rw [List.getElem?_map] at hr1
      cases hj : rs[j]? with
      | none => rw [hj] at hd1; cases hd1
      | some r =>
        rw [hj] at hd1 hr1
        cases hd1
        cases hr1
        walk_at "pd"
        refine ⟨rfl, ?_⟩
        walk_at "pd"
        exact ⟨r.k, r.ts, r.ws, r.a, rfl, (hrs r (List.mem_of_getElem? hj)).ok, rfl, rfl⟩
    rintro μ' rfl
    walk_at "pd"
    have hok : ∀ r ∈ rs, r.ok := fun r hr => (hrs r hr).ok
    refine ⟨rs, rfl, by omega, hok, ?_⟩
    have hLt := hL.txt
    have hLl := hL.lines
    have hLs := hL.sum
    have hall := lines_all hok
    have hstT : storeTxt rs = Txt.join "\n" (rs.map Rw.txt) := rfl
    refine sds_cut (fun δ' μ' => ∃ x7 x8, δ' = [some (.rl (ns.map .int)), some (.ref p), some d, some (.lst (rs.map rwT)), x4, some (.lst ((rs.map Rw.txt).map .str)), x6, x7, x8, x9, x10, x11, x12] ∧ Deal p q' [] μ') ?_ ?_
    · walk_at "pd"
      refine cld_strOwn (strOwn_of (m_Store_str T)) rfl (ok_Store_str T) hr (by decide) ⟨rs, rfl, by omega, hok, _, rfl, ?_⟩
      walk_at "pd"
      refine mtd_joinS (rs.map Rw.txt) (.lst _) rfl (by have e : (Str.ofString "\n").length = 1 := by decide
                                                        rw [e]; rw [List.length_map] at *; omega) ?_
      walk_at "pd"
      refine iteFr (by rw [hstT]; simp) ?_
      walk_at "pd"
      refine ⟨rfl, ?_⟩
      walk_at "pd"
      refine cld_strOwn (strOwn_of (m_Store_str T)) rfl (ok_Store_str T) hr (by decide) ⟨rs, rfl, by omega, hok, _, rfl, ?_⟩
      walk_at "pd"
      refine read_good hLl hLt hok ?_
      walk_at "pd"
      show opd _ _ (storeD K rs) _ _ _ _
      refine opd_neOwn (ne_Store T) rfl (.obj (ct_Store T) _ _) nf_same (ok_Store_eq T) hr (by decide) ⟨rs, _, rfl, by omega, hok, Or.inl ⟨rs, rfl, by omega, hok, _, rfl, ?_⟩⟩
      refine ⟨_, rfl, iteFr (by simp) ?_⟩
      walk_at "pd"
      exact ⟨_, _, rfl, hD6⟩
    rintro δ' μ' ⟨x7, x8, rfl, hD⟩
    refine sds_cut (fun δ' μ' => ∃ x6, δ' = [some (.rl (ns.map .int)), some (.ref p), some d, some (.lst (rs.map rwT)), x4, some (.lst ((rs.map Rw.txt).map .str)), x6, x7, x8, x9, x10, x11, x12] ∧ Deal p q' [] μ') ?_ ?_
    · walk_at "pd"
      refine lcd_ix (fun μ' => Deal p q' [] μ') ((rs.map Rw.txt).map .str) ?_
      walk_at "pd"
      refine ed_fld (c_Store T) (n_Store_rows T) ?_
      walk_at "pd"
      refine ⟨rfl, ?_⟩
      walk_at "pd"
      refine mtd_joinS (rs.map Rw.txt) (.lst _) rfl (by have e : (Str.ofString "\n").length = 1 := by decide
                                                        rw [e]; rw [List.length_map] at *; omega) ?_
      walk_at "pd"
      refine read_good hLl hLt hok ?_
      walk_at "pd.fldX"
      walk_at "pd"
      refine ⟨by rw [rwDs_len]; omega, by rw [rwDs_len, List.length_map, List.length_map], hD, fun _ _ => trivial, ?_, ?_⟩
      · rintro j d1 r1 μ9 hd1 hr1 hD9
        rw [rwDs_get] at hd1
        rw [List.getElem?_map, List.getElem?_map] at hr1
        cases hj : rs[j]? with
        | none => rw [hj] at hd1; cases hd1
        | some r =>
          rw [hj] at hd1 hr1
          cases hd1
          cases hr1
          walk_at "pd"
          refine ⟨rfl, ?_⟩
          walk_at "pd"
          refine cld_strOwn (strOwn_of (m_Row_str T)) rfl (ok_Row_str T) hr (by decide) ⟨r.k, r.ts, r.ws, r.a, rfl, (hok r (List.mem_of_getElem? hj)).txt, _, rfl, ?_⟩
          exact ⟨rfl, hD9⟩
      · rintro μ9 hD9
        walk_at "pd"
        have hto : strsOk (rs.map Rw.txt) := fun t ht => by
          obtain ⟨r, hr, rfl⟩ := List.mem_map.mp ht
          exact rowText_ok (hok r hr)
        refine opd_neV hu (.same _) (.same _) (ok_strs hto) (ok_strs hto) (depth_strs _) (depth_strs _) ?_
        rw [eqD_strs, decide_eq_true rfl]
        walk_at "pd"
        exact ⟨_, rfl, hD9⟩
    rintro δ' μ' ⟨x6, rfl, hD⟩
    walk_at "pd"
    rw [List.length_map, List.length_map]
    have hpos : 0 < rs.length := List.length_pos_iff.mpr hne
    refine ⟨p, q', [], rs.length, rfl, hD, by omega, by omega, fun r8 μ8 r80 r81 hD => ?_⟩
    obtain ⟨at8, rfl⟩ : ∃ n : Nat, r8 = (n : Int) := ⟨r8.toNat, by omega⟩
    have h8 : at8 < rs.length := by omega
    clear hD5
    refine sds_cut (fun δ' μ' => ∃ x9, δ' = [some (.rl (ns.map .int)), some (.ref p), some d, some (.lst (rs.map rwT)), x4, some (.lst ((rs.map Rw.txt).map .str)), x6, x7, some (.int (at8 : Int)), x9, x10, x11, x12] ∧ Deal p q' [] μ') ?_ ?_
    · refine sd_for rfl ?_
      walk_at "pd"
      have hg8 : (List.map D.str (List.map Rw.txt rs))[at8]? = some (.str rs[at8].txt) := by
        rw [List.getElem?_map, List.getElem?_map, List.getElem?_eq_getElem h8]; rfl
      have hc1 : PD.cutD (List.map D.str (List.map Rw.txt rs)) none (some (at8 : Int)) = ((rs.take at8).map Rw.txt).map D.str := by
        rw [cutD_to (by omega) (by rw [List.length_map, List.length_map]; omega), Int.toNat_natCast, List.map_take, List.map_take]
      have hc2 : PD.cutD (List.map D.str (List.map Rw.txt rs)) (some (at8 : Int)) none = ((rs.drop at8).map Rw.txt).map D.str := by
        rw [cutD_from (by omega) (by rw [List.length_map, List.length_map]; omega), Int.toNat_natCast, List.map_drop, List.map_drop]
      refine ixd_lst (atI_nat hg8) ?_
      walk_at "pd"
      rw [hc1]
      refine opd_cat (Nat.le_of_lt (lt_line (by simp; omega))) ?_
      walk_at "pd"
      rw [hc2]
      refine opd_cat (Nat.le_of_lt (lt_line (by simp; omega))) ?_
      walk_at "pd"
      refine ⟨_, rfl, ?_⟩
      walk_at "pd"
      rw [hc2]
      walk_at "pd"
      refine ⟨fun i δ' μ' => ∃ x9, δ' = [some (.rl (ns.map .int)), some (.ref p), some d, some (.lst (rs.map rwT)), x4, some (.lst ((rs.map Rw.txt).map .str)), x6, x7, some (.int (at8 : Int)), x9, x10, x11, x12] ∧ Deal p q' [] μ', ⟨_, rfl, hD⟩, fun _ _ _ _ _ => trivial, ?_, ?_⟩
      · rintro i2 d2 δ' μ' hd2 ⟨x9, rfl, hD⟩
        have key : ∃ rs2 : List Rw, d2 = .lst ((rs2.map Rw.txt).map .str) ∧ (∀ r ∈ rs2, r ∈ rs) ∧ rs2 ≠ [] ∧ rs2.length ≤ 9 := by
          have hm := List.mem_of_getElem? hd2
          rcases List.mem_cons.mp hm with e | hm
          · refine ⟨rs.take at8 ++ [rs[at8]] ++ rs.drop at8, by rw [e]; simp only [List.map_append, List.map_cons, List.map_nil], fun r hr => ?_, fun e => ?_, by simp; omega⟩
            rcases List.mem_append.mp hr with hr | hr
            · rcases List.mem_append.mp hr with hr | hr
              · exact List.mem_of_mem_take hr
              · rw [List.mem_singleton.mp hr]; exact List.getElem_mem h8
            · exact List.mem_of_mem_drop hr
            · have := congrArg List.length e
              rw [List.length_append, List.length_append, List.length_cons, List.length_nil] at this
              omega
          rcases List.mem_cons.mp hm with e | hm
          · exact ⟨rs.reverse, by rw [e, List.map_reverse, List.map_reverse], fun r hr => List.mem_reverse.mp hr, by simpa using hne, by simp; omega⟩
          · refine ⟨rs.drop at8, List.mem_singleton.mp hm, fun r hr => List.mem_of_mem_drop hr, fun e => ?_, by simp; omega⟩
            have := congrArg List.length e
            simp at this; omega
        clear hd2 hc1 hc2 hg8
        obtain ⟨rs2, rfl, hin, hne2, hn2⟩ := key
        have hL2 := ln_rows (fun r hr => hrs r (hin r hr)) hne2 hn2
        have hL2s := hL2.sum
        have hok2 : ∀ r ∈ rs2, r.ok := fun r hr => hok r (hin r hr)
        have hj2 : ((rs2.map Rw.txt).map (·.length)).sum + (rs2.map Rw.txt).length * (Str.ofString "\n").length ≤ 1000 := by
          have e : (Str.ofString "\n").length = 1 := by decide
          rw [e]; omega
        walk_at "pd"
        refine mtd_joinS (rs2.map Rw.txt) (.lst _) rfl (by omega) ?_
        walk_at "pd"
        refine heard_good hL2.lines hL2.txt hok2 ?_
        walk_at "pd"
        refine mtd_joinS (rs2.map Rw.txt) (.lst _) rfl (by omega) ?_
        walk_at "pd"
        refine iteFr (by rw [show storeTxt rs2 = Txt.join "\n" (rs2.map Rw.txt) from rfl]; simp) ?_
        walk_at "pd"
        exact ⟨_, rfl, hD⟩
      · rintro δ' μ' ⟨x9, rfl, hD⟩
        exact ⟨_, rfl, hD⟩
    rintro δ' μ' ⟨x9, rfl, hD⟩
    refine sds_cons ?_
    with_reducible refine sd_nm v_law_odd sc_law.nd ?a0 (hs := ?a1) (hf := ?a2) (e := ?a3) (e2 := ?a4)
    case a1 => rfl
    case a2 => rfl
    case a3 => rfl
    case a4 => rfl
    walk_at "pdS"
    obtain ⟨od, hod⟩ : ∃ od, od = oddS := ⟨_, rfl⟩
    have hob : ∀ t ∈ od, readP t = none ∧ 10 ∉ TL.tl t ∧ t.length ≤ 86 := by rw [hod]; exact oddS_none
    have hon : (od.map D.str).length = 7 := by rw [hod]; rfl
    have hom : od.map D.str ≠ [] := by intro c; rw [c] at hon; cases hon
    rw [show ([D.str "", D.str "new", D.str "new  yes", D.str "join if points yes", D.str "back do move yes", D.str "rows", D.str "sweep do bare no"] : List D) = od.map .str by rw [hod]; rfl]
    clear hod
    refine sds_cons ?_
    walk_at "pd"
    rw [List.length_map, List.length_map]
    refine ⟨p, q', [], _, rfl, hD, by omega, by omega, fun r11 μ9 r0 r1 hD => ?_⟩
    obtain ⟨sp, rfl⟩ : ∃ n : Nat, r11 = (n : Int) := ⟨r11.toNat, by omega⟩
    have h11 : sp ≤ rs.length := by omega
    have hc1 : PD.cutD (List.map D.str (List.map Rw.txt rs)) none (some (sp : Int)) = ((rs.take sp).map Rw.txt).map D.str := by
      rw [cutD_to (by omega) (by rw [List.length_map, List.length_map]; omega), Int.toNat_natCast, List.map_take, List.map_take]
    have hc2 : PD.cutD (List.map D.str (List.map Rw.txt rs)) (some (sp : Int)) none = ((rs.drop sp).map Rw.txt).map D.str := by
      rw [cutD_from (by omega) (by rw [List.length_map, List.length_map]; omega), Int.toNat_natCast, List.map_drop, List.map_drop]
    refine sds_cut (fun δ' μ' => ∃ (x : Str) (post : List Str) (x12 : D), δ' = [some (.rl (ns.map .int)), some (.ref p), some d, some (.lst (rs.map rwT)), x4, some (.lst ((rs.map Rw.txt).map .str)), x6, x7, some (.int (at8 : Int)), x9, some (.lst (od.map .str)), some (.int (sp : Int)), some (.lst (((rs.take sp).map Rw.txt ++ x :: post).map .str))] ∧
      readP x = none ∧ LnOk ((rs.take sp).map Rw.txt ++ x :: post) ∧ Deal p q' [] μ') ?_ ?_
    · walk_at "pd"
      refine ⟨p, q', [], _, _, rfl, Or.inl rfl, hD, hom, by rw [hon]; decide, fun dx hdx μ10 hD => ?_⟩
      obtain ⟨x, hx, rfl⟩ := List.mem_map.mp hdx
      obtain ⟨hx1, hx2, hx3⟩ := hob x hx
      refine ea_nil ⟨(show 1 ≤ 1000 by decide), ?_⟩
      rw [hc1]
      refine opd_cat (Nat.le_of_lt (lt_line (by simp; omega))) ?_
      walk_at "pd"
      rw [hc2]
      refine opd_cat (Nat.le_of_lt (lt_line (by simp; omega))) ?_
      walk_at "pd"
      refine ⟨p, q', [], 2, rfl, hD, by decide, by decide, fun r12 μ11 t0 t1 hD => ?_⟩
      obtain ⟨e, rfl⟩ : ∃ n : Nat, r12 = (n : Int) := ⟨r12.toNat, by omega⟩
      have he : e ≤ 1 := by omega
      refine opd_repL (by omega) (by omega) (Nat.le_of_lt (lt_line (by simp; omega))) ?_
      refine opd_cat (Nat.le_of_lt (lt_line (by simp; omega))) ?_
      refine ⟨x, (rs.drop sp).map Rw.txt ++ List.replicate e (Str.ofString "new"), .non, ?_, hx1, ⟨by simp, ?_, ?_, ?_⟩, hD⟩
      · have e1 : (List.map D.str (List.map Rw.txt (rs.take sp)) ++ [D.str x] ++ List.map D.str (List.map Rw.txt (rs.drop sp)) ++ (List.replicate (e : Int).toNat [D.str "new"]).flatten) = ((rs.take sp).map Rw.txt ++ x :: ((rs.drop sp).map Rw.txt ++ List.replicate e (Str.ofString "new"))).map D.str := by
          rw [Int.toNat_natCast]; simp
        rw [e1]; rfl
      · simp only [List.length_append, List.length_cons, List.length_map, List.length_take, List.length_drop, List.length_replicate]; omega
      · intro l hl
        rcases List.mem_append.mp hl with hl | hl
        · obtain ⟨r, hr, rfl⟩ := List.mem_map.mp hl
          have h := hrs r (List.mem_of_mem_take hr)
          exact ⟨row_nl h.ok, h.n⟩
        rcases List.mem_cons.mp hl with rfl | hl
        · exact ⟨hx2, hx3⟩
        rcases List.mem_append.mp hl with hl | hl
        · obtain ⟨r, hr, rfl⟩ := List.mem_map.mp hl
          have h := hrs r (List.mem_of_mem_drop hr)
          exact ⟨row_nl h.ok, h.n⟩
        · rw [(List.mem_replicate.mp hl).2]
          exact ⟨new_none.2.1, new_none.2.2⟩
      · intro e3
        have := congrArg List.length e3
        simp only [List.length_append, List.length_cons, List.length_map, List.length_take, List.length_drop, List.length_replicate, List.length_nil] at this
        omega
    rintro δ' μ' ⟨x, post, x12, rfl, hx, hLw, hD⟩
    have hLs := hLw.sum
    have hjw : (((rs.take sp).map Rw.txt ++ x :: post).map (·.length)).sum + ((rs.take sp).map Rw.txt ++ x :: post).length * (Str.ofString "\n").length ≤ 1000 := by
      have e : (Str.ofString "\n").length = 1 := by decide
      rw [e]; omega
    walk_at "pd"
    refine mtd_joinS ((rs.take sp).map Rw.txt ++ x :: post) (.lst _) rfl (by omega) ?_
    walk_at "pd"
    refine heard_bad hLw.lines hLw.txt (fun l hl => ?_) hx ?_
    · obtain ⟨r, hr, rfl⟩ := List.mem_map.mp hl
      rw [read_own (hok r (List.mem_of_mem_take hr))]; rfl
    rw [List.length_map, List.length_take, Nat.min_eq_left h11]
    walk_at "pd"
    refine iteFr (by simp) ?_
    walk_at "pd"
    exact ⟨_, _, _, _, _, _, _, _, _, _, _, rfl, hD⟩
  · rintro δ' μ' ⟨x2, x3, x4, x5, x6, x7, x8, x9, x10, x11, x12, rfl, hD⟩
    have h0 : ∀ r ∈ ([] : List Rw), r.ok := fun _ h => (List.not_mem_nil h).elim
    have e0 : storeTxt [] = Str.ofString "" := by decide
    walk_at "pd"
    refine ⟨_, some [], rfl, StAsk.nilT, (fun h => nomatch h), fun rs' h => ?_⟩
    cases h
    walk_at "pd"
    refine cld_strOwn (strOwn_of (m_Store_str T)) rfl (ok_Store_str T) hr (by decide) ⟨[], rfl, by decide, h0, _, rfl, ?_⟩
    rw [e0]
    walk_at "pd"
    refine iteFr (by decide) ?_
    walk_at "pd"
    refine ⟨rfl, ?_⟩
    walk_at "pd"
    refine read_good (rs := []) (by decide +kernel) ⟨by decide, by decide +kernel, by decide +kernel⟩ h0 ?_
    walk_at "pd"
    refine ⟨_, some [], rfl, StAsk.nilT, (fun h => nomatch h), fun rs' h => ?_⟩
    cases h
    walk_at "pd"
    show opd _ _ (storeD K []) _ _ _ _
    refine opd_neOwn (ne_Store T) rfl (.obj (ct_Store T) _ _) nf_same (ok_Store_eq T) hr (by decide) ⟨[], _, rfl, by decide, h0, Or.inl ⟨[], rfl, by decide, h0, _, rfl, ?_⟩⟩
    refine ⟨_, rfl, iteFr (by simp) ?_⟩
    walk_at "pd"
    refine heard_bad (pre := []) (x := "") (post := [Str.ofString ""]) (by decide +kernel) ⟨by decide, by decide +kernel, by decide +kernel⟩ (fun l h => (List.not_mem_nil h).elim) (by decide +kernel) ?_
    walk_at "pd"
    refine iteFr (by decide) ?_
    walk_at "pd"
    refine heard_bad (pre := ["new yes"]) (x := "") (post := []) (by decide +kernel) ⟨by decide, by decide +kernel, by decide +kernel⟩ (fun l h => by rw [List.mem_singleton.mp h]; decide +kernel) (by decide +kernel) ?_
    walk_at "pd"
    refine iteTr (by decide) ?_
    walk_at "pd"
    refine ⟨rfl, ?_⟩
    walk_at "pd"
    refine read_good (rs := []) (by decide +kernel) ⟨by decide, by decide +kernel, by decide +kernel⟩ h0 ?_
    walk_at "pd"
    refine cld_lenOwn (m_Store_len T) rfl (ok_Store_len T) hr (by decide) ⟨[], rfl, _, rfl, by decide, ?_⟩
    walk_at "pd"
    exact q _
end
end
theorem facts {P : Program} {w : World} {K : PySem.W.Frag} {h : Heap} {mg : Str → Option Value} {f : Addr} (X : K.In h) (G : h.Ns mainGlobals mg) (hfa : mg ("law" : Str) = some (.ref f)) (c : sayP fa fn fx ts ex K = valP fn fx ts w) :
    ∃ fd : FuncData, (∀ (s : Shared) (v : Value), BindsTo s fd ⟨[v], []⟩ [("_law_script", v)]) ∧ ∀ base : Heap, K.In base → base.Ns mainGlobals mg → FnD false P w K mg base 10 f fd ["_law_script"] spLaw := by
  have T : T0 w K mg := txp_of X G c
  obtain ⟨fd, F⟩ := f_law T
  cases hfa.symm.trans (g_law T)
  have b := FunD.bindsA (ps := ["_law_script"]) F fun _ _ _ _ _ _ us hl => match us, hl with | [_], _ => rfl
  exact ⟨fd, fun s v => b s [v] rfl, fun base _ _ => ok_law T F⟩
end LW
open PySem PySem.W PySem.Calls PyProof.Rows
theorem PySem.Challenge.cw_joinsback_k14_texts_of_stores_holds : PySem.Challenge.rw_joinsback_k14_texts_of_stores.Holds := by
  exact LW.fin fun P w K h mg f X G hfa c => LW.facts X G hfa c
