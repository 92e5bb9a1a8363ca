import PyProof.Rows.All
import Wide.All
import OpenK.AllK
import Wide.FinOn
import PyProof.EqAt
import PyProof.EqKinds
import PyProof.TupleCall
import HandS.Base
import HandS.Call
import HandS.List
import HandS.Ends
import HandS.Exc
import HandS.Words
import HandS.WordsExc
import HandS.CallSlots
import HandS.ExcCtx
import HandS.SuiteRaise
import HandS.ExcInit
import HandS.Wide
import HandS.Text
import HandS.TupAny
import HandS.IsInst
import HandS.More
import HandS.Comp
import HandS.Iter
import HandS.Defaults
import HandS.Property
import HandS.MakeKw
import HandS.Star
import KE.KCallOwn
import HandS.Head0
import HandS.Head1
import HandS.Head2
import HandS.HeadEnd
import HandS.HeadHook1
import HandS.HeadHook2
import HandS.HeadHook3
import HandS.HeadHook4
import HandS.EndBits
import HandS.Style
import HandS.SlotsOwn
import HandS.NamedTup0
import HandS.ExcInitHot
import HandS.ExcField
import HandS.ExcIs
import HandS.TryOnly
import KE.KExcInit
import HandS.ClsMeth
import HandS.HeadNt
import KE.GoesEnum
import HandS.RaiseMore
import HandS.TupMul
import HandS.SetFor
import HandS.Strs
import HandS.Conv
import HandS.RaiseFrom
import PyProof.ReprRoads
import PyProof.AutoSeq1
import OpenK.KMeth
import KE.KIsAll
import PyProof.IsiBase
import PyProof.FactsAll.set
import PyProof.RulesMatch
import KE.KDictList
import KE.KItemsList
import HandS.ExcValue
import PyProof.StrOps2
import HandS.SortInts
import PyProof.Rows.TmSorted
import PyProof.Rows.StrMeet
import HandS.DictComp
import HandS.Zip
import HandS.Flow
import KE.KOpsOwn
import HandS.ReplaceLit
import KE.KAsSuite
import PySem.Challenge.RW_joinsback_k01_errors_and_what_they_keep
set_option Elab.async false
set_option linter.all false
set_option maxRecDepth 100000
set_option maxHeartbeats 4000000
/-! PD1: values as plain data, the state (data, owned cells), judgements over data. -/
namespace PD
open PySem PySem.Spec PyProof.Rows L2
inductive D where
  | non | bl (b : Bool) | int (i : Int) | str (x : Str) | ty (n : String) | ref (a : Addr)
  | lst (xs : List D) | rl (xs : List D) | tup (xs : List D) | obj (C : Addr) (ns : List Str) (ds : List D) | dK (ks : List Key) (ds : List D)
  /-- a slice object -/
  | slc (lo hi st : Option Int)
  /-- an exception that is kept: its class, what it keeps -/
  | exv (C : Addr) (ns : List Str) (ds : List D)
  deriving Inhabited
/-- what a slice object is -/
def slcO (a : Addr) (lo hi st : Option Int) : Heap → Prop := fun h => ∃ o vl vu vs, h.get? a = some o ∧ o.cls = .type "slice" ∧ o.data = .fields #[vl, vu, vs] ∧ IsPart vl lo ∧ IsPart vu hi ∧ IsPart vs st
mutual
def Dp (K : PySem.W.Frag) (F : Hp) : D → V → Prop
  | .non, v => v = .non
  | .bl b, v => v = .bl b
  | .int i, v => v = .int i
  | .str x, v => v = .str x
  | .ty n, v => v = .ty n
  | .ref a, v => v = .ref a
  | .lst ds, v => ∃ a vs, v = .ref a ∧ F a = some (.lst vs) ∧ Dps K F ds vs
  | .rl ds, v => ∃ a vs, v = .ref a ∧ SqL K F a vs ∧ Dps K F ds vs
  | .tup ds, v => ∃ a vs, v = .ref a ∧ SqT K F a vs ∧ Dps K F ds vs
  | .obj C ns ds, v => ∃ a dx gs, v = .ref a ∧ F a = some (.ins C dx gs) ∧ gs.map (·.1) = ns ∧ Dps K F ds (gs.map (·.2))
  | .dK ks ds, v => ∃ a kvs, v = .ref a ∧ F a = some (.dK kvs) ∧ kvs.map (·.1) = ks ∧ Dps K F ds (kvs.map (·.2))
  | .slc lo hi st, v => ∃ a, v = .ref a ∧ F a = some (.ext (slcO a lo hi st))
  | .exv C ns ds, v => ∃ a o gs, v = .ref a ∧ F a = some (exo a C o) ∧ (o = none → gs = []) ∧ (∀ dx, o = some dx → F dx = some (exd dx gs)) ∧ gs.map (·.1) = ns ∧ Dps K F ds (gs.map (·.2))
def Dps (K : PySem.W.Frag) (F : Hp) : List D → List V → Prop
  | [], vs => vs = []
  | d :: ds, vs => ∃ v ws, vs = v :: ws ∧ Dp K F d v ∧ Dps K F ds ws
end
inductive Cell where
  | lst (ds : List D)
  | ins (C dx : Addr) (ns : List Str) (ds : List D)
  | dK (ks : List Key) (ds : List D)
  | dT (ks : List (List Key)) (ds : List D)
  | set (S : Int → Bool) (n : Nat)
  /-- a dict that is locked -/
  | dF (od : Obj) (gs : List (Key × V)) (ds : List D)
abbrev Mu := List (Addr × Cell)
abbrev Dl := List (Option D)
section
variable {K : PySem.W.Frag} {F F' H H' : Hp}
theorem Same.sqT {a : Addr} {xs : List V} (e : Same F F') (h : SqT K F a xs) : SqT K F' a xs := by
  rcases h with (h | ⟨o, h⟩) | h
  · exact .inl (.inl (e _ _ h))
  · exact .inl (.inr ⟨o, e _ _ h⟩)
  · exact .inr h
mutual
theorem Dp.mono (e : Same F F') : ∀ {d : D} {v : V}, Dp K F d v → Dp K F' d v
  | .non, _, h => h
  | .bl _, _, h => h
  | .int _, _, h => h
  | .str _, _, h => h
  | .ty _, _, h => h
  | .ref _, _, h => h
  | .lst ds, v, h => by
    rw [Dp] at h ⊢
    obtain ⟨a, vs, h1, h2, h3⟩ := h
    exact ⟨a, vs, h1, e _ _ h2, Dps.mono e h3⟩
  | .rl ds, v, h => by
    rw [Dp] at h ⊢
    obtain ⟨a, vs, h1, h2, h3⟩ := h
    exact ⟨a, vs, h1, e.seq h2, Dps.mono e h3⟩
  | .tup ds, v, h => by
    rw [Dp] at h ⊢
    obtain ⟨a, vs, h1, h2, h3⟩ := h
    exact ⟨a, vs, h1, Same.sqT e h2, Dps.mono e h3⟩
  | .obj C ns ds, v, h => by
    rw [Dp] at h ⊢
    obtain ⟨a, dx, gs, h1, h2, h3, h4⟩ := h
    exact ⟨a, dx, gs, h1, e _ _ h2, h3, Dps.mono e h4⟩
  | .dK ks ds, v, h => by
    rw [Dp] at h ⊢
    obtain ⟨a, gs, h1, h2, h3, h4⟩ := h
    exact ⟨a, gs, h1, e _ _ h2, h3, Dps.mono e h4⟩
  | .slc _ _ _, v, h => by
    rw [Dp] at h ⊢
    obtain ⟨a, h1, h2⟩ := h
    exact ⟨a, h1, e _ _ h2⟩
  | .exv C ns ds, v, h => by
    rw [Dp] at h ⊢
    obtain ⟨a, o, gs, h1, h2, h3, h4, h5, h6⟩ := h
    exact ⟨a, o, gs, h1, e _ _ h2, h3, fun dx z => e _ _ (h4 dx z), h5, Dps.mono e h6⟩
theorem Dps.mono (e : Same F F') : ∀ {ds : List D} {vs : List V}, Dps K F ds vs → Dps K F' ds vs
  | [], _, h => h
  | d :: ds, vs, h => by
    rw [Dps] at h ⊢
    obtain ⟨v, ws, h1, h2, h3⟩ := h
    exact ⟨v, ws, h1, Dp.mono e h2, Dps.mono e h3⟩
end
theorem Dps.nil : Dps K F [] [] := by rw [Dps]
theorem Dps.cons {d : D} {v : V} {ds : List D} {vs : List V} (h : Dp K F d v) (hs : Dps K F ds vs) : Dps K F (d :: ds) (v :: vs) := by
  rw [Dps]; exact ⟨v, vs, rfl, h, hs⟩
theorem Dps.uncons {d : D} {ds : List D} {vs : List V} (h : Dps K F (d :: ds) vs) : ∃ v ws, vs = v :: ws ∧ Dp K F d v ∧ Dps K F ds ws := by
  rw [Dps] at h; exact h
theorem Dps.unnil {vs : List V} (h : Dps K F [] vs) : vs = [] := by rw [Dps] at h; exact h
theorem Dps.length : ∀ {ds : List D} {vs : List V}, Dps K F ds vs → ds.length = vs.length
  | [], vs, h => by rw [h.unnil]; rfl
  | d :: ds, vs, h => by
    obtain ⟨v, ws, rfl, _, h3⟩ := h.uncons
    rw [List.length_cons, List.length_cons, Dps.length h3]
theorem Dps.get : ∀ {ds : List D} {vs : List V} {i : Nat} {d : D}, Dps K F ds vs → ds[i]? = some d → ∃ v, vs[i]? = some v ∧ Dp K F d v
  | [], vs, i, d, h, e => by simp at e
  | d' :: ds, vs, 0, d, h, e => by
    obtain ⟨v, ws, rfl, h2, h3⟩ := h.uncons
    rw [List.getElem?_cons_zero] at e
    cases e
    exact ⟨v, rfl, h2⟩
  | d' :: ds, vs, i + 1, d, h, e => by
    obtain ⟨v, ws, rfl, h2, h3⟩ := h.uncons
    rw [List.getElem?_cons_succ] at e
    obtain ⟨u, h4, h5⟩ := Dps.get h3 e
    exact ⟨u, by rw [List.getElem?_cons_succ]; exact h4, h5⟩
theorem Dps.append : ∀ {ds es : List D} {vs ws : List V}, Dps K F ds vs → Dps K F es ws → Dps K F (ds ++ es) (vs ++ ws)
  | [], _, _, _, h, h' => by rw [h.unnil]; exact h'
  | d :: ds, es, vs, ws, h, h' => by
    obtain ⟨v, us, rfl, h2, h3⟩ := h.uncons
    exact Dps.cons h2 (Dps.append h3 h')
theorem Dps.drop : ∀ {ds : List D} {vs : List V} (n : Nat), Dps K F ds vs → Dps K F (ds.drop n) (vs.drop n)
  | ds, vs, 0, h => h
  | [], vs, n + 1, h => by rw [h.unnil]; exact Dps.nil
  | d :: ds, vs, n + 1, h => by
    obtain ⟨v, us, rfl, h2, h3⟩ := h.uncons
    exact Dps.drop n h3
theorem Dps.take : ∀ {ds : List D} {vs : List V} (n : Nat), Dps K F ds vs → Dps K F (ds.take n) (vs.take n)
  | ds, vs, 0, h => by rw [List.take_zero, List.take_zero]; exact Dps.nil
  | [], vs, n + 1, h => by rw [h.unnil]; exact Dps.nil
  | d :: ds, vs, n + 1, h => by
    obtain ⟨v, us, rfl, h2, h3⟩ := h.uncons
    exact Dps.cons h2 (Dps.take n h3)
theorem Dps.set : ∀ {ds : List D} {vs : List V} (i : Nat) {d : D} {v : V}, Dps K F ds vs → Dp K F d v → Dps K F (ds.set i d) (vs.set i v)
  | [], vs, i, d, v, h, _ => by rw [h.unnil]; exact Dps.nil
  | d' :: ds, vs, 0, d, v, h, k => by
    obtain ⟨v', us, rfl, h2, h3⟩ := h.uncons
    exact Dps.cons k h3
  | d' :: ds, vs, i + 1, d, v, h, k => by
    obtain ⟨v', us, rfl, h2, h3⟩ := h.uncons
    exact Dps.cons h2 (Dps.set i h3 k)
theorem Dps.reverse : ∀ {ds : List D} {vs : List V}, Dps K F ds vs → Dps K F ds.reverse vs.reverse
  | [], vs, h => by rw [h.unnil]; exact Dps.nil
  | d :: ds, vs, h => by
    obtain ⟨v, us, rfl, h2, h3⟩ := h.uncons
    rw [List.reverse_cons, List.reverse_cons]
    exact (Dps.reverse h3).append (Dps.cons h2 Dps.nil)
theorem Dps.dropLast {ds : List D} {vs : List V} (h : Dps K F ds vs) : Dps K F ds.dropLast vs.dropLast := by
  rw [List.dropLast_eq_take, List.dropLast_eq_take, h.length]
  exact h.take _
theorem Dps.of_ints : ∀ {ns : List Int}, Dps K F (ns.map D.int) (ns.map V.int)
  | [] => Dps.nil
  | n :: ns => Dps.cons (by rw [Dp]) Dps.of_ints
theorem Dps.bls : ∀ {ns : List Bool} {vs : List V}, Dps K F (ns.map D.bl) vs → vs = ns.map V.bl
  | [], vs, h => h.unnil
  | n :: ns, vs, h => by
    obtain ⟨v, us, rfl, h2, h3⟩ := Dps.uncons h
    rw [Dp] at h2
    rw [h2, Dps.bls h3, List.map_cons]
end
/-! ### cells, the state -/
def CellOk (K : PySem.W.Frag) (F H : Hp) (p : Addr) : Cell → Prop
  | .lst ds => ∃ vs, H p = some (.lst vs) ∧ Dps K F ds vs
  | .ins C dx ns ds => ∃ gs, H p = some (.ins C dx gs) ∧ gs.map (·.1) = ns ∧ Dps K F ds (gs.map (·.2))
  | .dK ks ds => ∃ kvs, H p = some (.dK kvs) ∧ kvs.map (·.1) = ks ∧ Dps K F ds (kvs.map (·.2))
  | .dT ks ds => ∃ kvs, H p = some (.dT kvs) ∧ kvs.map (·.1) = ks ∧ Dps K F ds (kvs.map (·.2))
  | .set S n => H p = some (.set S n)
  | .dF od gs ds => H p = some (.frz od (.dK gs)) ∧ Dps K F ds (gs.map (·.2))
def dom (μ : Mu) : List Addr := μ.map (·.1)
structure Sx (K : PySem.W.Frag) (F : Hp) (μ : Mu) (H : Hp) : Prop where
  sub : Same F H
  off : ∀ c ∈ μ, F c.1 = none
  nd : (dom μ).Nodup
  cells : ∀ c ∈ μ, CellOk K F H c.1 c.2
structure Step (F : Hp) (μ : Mu) (H : Hp) (F' : Hp) (μ' : Mu) (H' : Hp) : Prop where
  ext : Same F F'
  keep : ∀ a o, H a = some o → a ∉ dom μ → H' a = some o
  new : ∀ a o, F' a = some o → F a = none → H a = none ∨ a ∈ dom μ
  cell : ∀ a ∈ dom μ', a ∈ dom μ ∨ H a = none
theorem Step.refl (F : Hp) (μ : Mu) (H : Hp) : Step F μ H F μ H :=
  ⟨Same.refl F, fun _ _ h _ => h, fun a o h h' => by rw [h] at h'; (cases h'), fun a h => .inl h⟩
theorem Step.back {F F' H H' : Hp} {μ μ' : Mu} (s : Step F μ H F' μ' H') {a : Addr} (h : H' a = none) : H a = none ∨ a ∈ dom μ := by
  by_cases q : a ∈ dom μ
  · exact .inr q
  · cases e : H a with
    | none => exact .inl rfl
    | some o => rw [s.keep a o e q] at h; cases h
theorem Step.trans {F F1 F2 H H1 H2 : Hp} {μ μ1 μ2 : Mu} (s : Step F μ H F1 μ1 H1) (t : Step F1 μ1 H1 F2 μ2 H2) : Step F μ H F2 μ2 H2 where
  ext := s.ext.trans t.ext
  keep := fun a o h hn => t.keep a o (s.keep a o h hn) fun hm => by
    rcases s.cell a hm with q | q
    · exact hn q
    · rw [h] at q; cases q
  new := fun a o h h0 => by
    cases e : F1 a with
    | some u => exact s.new a u e h0
    | none =>
      rcases t.new a o h e with q | q
      · exact s.back q
      · rcases s.cell a q with z | z
        · exact .inr z
        · exact .inl z
  cell := fun a h => by
    rcases t.cell a h with q | q
    · exact s.cell a q
    · exact (s.back q).symm
def Fr (K : PySem.W.Frag) (F : Hp) (σ : L2.St) (δ : Dl) : Prop := σ.length = δ.length ∧ ∀ (i : Nat) (d : D), δ[i]? = some (some d) → ∃ v, σ[i]? = some (some v) ∧ Dp K F d v
theorem Fr.mono {K : PySem.W.Frag} {F F' : Hp} {σ : L2.St} {δ : Dl} (e : Same F F') (h : Fr K F σ δ) : Fr K F' σ δ :=
  ⟨h.1, fun i d q => by obtain ⟨v, h1, h2⟩ := h.2 i d q; exact ⟨v, h1, h2.mono e⟩⟩
theorem Fr.set {K : PySem.W.Frag} {F : Hp} {σ : L2.St} {δ : Dl} (h : Fr K F σ δ) (i : Nat) {v : V} {d : D} (r : Dp K F d v) : Fr K F (σ.set i (some v)) (δ.set i (some d)) := by
  refine ⟨by rw [List.length_set, List.length_set, h.1], fun j e q => ?_⟩
  by_cases hj : i = j
  · subst hj
    by_cases hl : i < δ.length
    · rw [List.getElem?_set_self hl] at q
      cases q
      exact ⟨v, List.getElem?_set_self (by rw [h.1]; exact hl), r⟩
    · rw [List.getElem?_eq_none (by rw [List.length_set]; omega)] at q
      cases q
  · rw [List.getElem?_set_ne hj] at q ⊢
    exact h.2 j e q
/-- a slot forgotten on both sides -/
theorem Fr.unset {K : PySem.W.Frag} {F : Hp} {σ : L2.St} {δ : Dl} (h : Fr K F σ δ) (i : Nat) (o : Option V) : Fr K F (σ.set i o) (δ.set i none) := by
  refine ⟨by rw [List.length_set, List.length_set, h.1], fun j e q => ?_⟩
  by_cases hj : i = j
  · subst hj
    by_cases hl : i < δ.length
    · rw [List.getElem?_set_self hl] at q
      cases q
    · rw [List.getElem?_eq_none (by rw [List.length_set]; omega)] at q
      cases q
  · rw [List.getElem?_set_ne hj] at q ⊢
    exact h.2 j e q
/-- what holds of an exception: its class, its own dict's fields -/
def XdOk (K : PySem.W.Frag) (F : Hp) (d : Option Addr) (ns : List Str) (ds : List D) : Prop :=
  (d = none ∧ ns = [] ∧ ds = []) ∨ ∃ a gs, d = some a ∧ F a = some (.xd gs) ∧ gs.map (·.1) = ns ∧ Dps K F ds (gs.map (·.2))
theorem XdOk.mono {K : PySem.W.Frag} {F F' : Hp} {d : Option Addr} {ns : List Str} {ds : List D} (e : Same F F') (h : XdOk K F d ns ds) : XdOk K F' d ns ds := by
  rcases h with h | ⟨a, gs, h1, h2, h3, h4⟩
  · exact .inl h
  · exact .inr ⟨a, gs, h1, e _ _ h2, h3, h4.mono e⟩
abbrev XD := Value → List Str → List D → Dl → Mu → Prop
def WofD (K : PySem.W.Frag) (F0 : Hp) (μ0 : Mu) (H0 : Hp) (W : XD) : WX := fun cls d σ H => ∃ F μ δ ns ds, Step F0 μ0 H0 F μ H ∧ Sx K F μ H ∧ Fr K F σ δ ∧ XdOk K F d ns ds ∧ W cls ns ds δ μ
/-! ### exceptions whose context is None, or one that has none itself -/
/-- an exception's object: class, dict, context -/
def Zx (c cls : Value) (d : Option Addr) : Obj → Prop := fun o => Zc cls d o ∧ ∀ vs : Array Value, o.data = .fields vs → vs[2]? = some c
theorem Zx.steady {c cls : Value} {d : Option Addr} : PXN.Steady1 (Zx c cls d) := fun o v h => by
  refine ⟨⟨PXN.steady_cls o v h.1.1, PXN.steady_dict o v h.1.2⟩, fun vs e => ?_⟩
  obtain ⟨k, dd, dt, sl⟩ := o
  cases dt with
  | fields vs0 =>
    have e2 : vs0.setIfInBounds 1 v = vs := Data.fields.inj e
    rw [← e2, Array.getElem?_setIfInBounds_ne (by decide)]
    exact h.2 vs0 rfl
  | _ => exact h.2 vs e
/-- such a context -/
def KC (B : Heap) (H : Hp) (c : Value) : Prop := c = .none ∨ ∃ (x : Addr) (o : Obj) (vs : Array Value), c = .ref x ∧ B.get? x = some o ∧ H x = none ∧ o.data = .fields vs ∧ vs[2]? = some .none
/-- in the air of X -/
def XM (X : Cx) (W : WX) (u : Value) (s' : Shared) : Prop :=
  ∃ (a : Addr) (B : Heap) (sI : Shared) (pins : List (Addr × Obj)) (σ : L2.St) (H : Hp) (cls : Value) (d : Option Addr),
    u = .ref a ∧ Inv X pins σ H sI ∧ (∀ b o, sI.heap.get? b = some o → b ∉ frs X.stack → B.get? b = some o) ∧ sI.heap.UpToSlots s'.heap ∧
      (∃ c, KC B H c ∧ Sky B X.stack a (Zx c cls d) X.env.locals s'.heap) ∧ H a = none ∧ s'.os = sI.os ∧ AllBare s'.gens ∧ W cls d σ H
def TakesM (X : Cx) (W : WX) : Prop := ∀ u s', XM X W u s' → X.xe u s'
/-- behind a call that let such a one out -/
def CXM (P : Program) (w : World) (outer : List Env) (H : Hp) (s : Shared) (E : XK) (u : Value) (s' : Shared) : Prop :=
  ∃ (a : Addr) (B : Heap) (H' : Hp) (cls : Value) (d : Option Addr), u = .ref a ∧ (∃ c, KC B H' c ∧ HandSPX.FlyingZ B outer a (Zx c cls d) s'.heap) ∧ HOk P w H' B ∧ UB (frs outer) H H' s.heap B s'.heap ∧ H' a = none ∧ s'.os = s.os ∧ AllBare s'.gens ∧ E cls d H'
section
variable {X : Cx} {pins : List (Addr × Obj)} {σ : L2.St} {H H' : Hp} {sI s s' : Shared} {B : Heap} {W : WX} {E : XK}
/-- the state that a call leaves, without the exception -/
theorem call_ground (I : Inv X pins σ H s) (st : B.StaysIn s'.heap) (hok : HOk X.prog X.w H' B) (ub : UB (frs X.stack) H H' s.heap B s'.heap) (os : s'.os = s.os) (ag : AllBare s'.gens) :
    ∃ sI, Inv X pins σ H' sI ∧ (∀ b o, sI.heap.get? b = some o → b ∉ frs X.stack → B.get? b = some o) ∧ sI.heap.UpToSlots s'.heap ∧ s'.os = sI.os := by
  obtain ⟨G, inG, notG⟩ := restrict s'.heap fun b => (B.get? b).isSome || decide (b ∈ frs X.stack)
  have fromB : ∀ b o, B.get? b = some o → G.get? b = some o := fun b o z => (inG b (by simp [z])).trans (st b o z)
  have fromF : ∀ b, b ∈ frs X.stack → G.get? b = s'.heap.get? b := fun b hb => inG b (by simp [hb])
  have ofG : ∀ b o, G.get? b = some o → s'.heap.get? b = some o ∧ ((B.get? b).isSome = true ∨ b ∈ frs X.stack) := fun b o z => by
    by_cases q : ((B.get? b).isSome || decide (b ∈ frs X.stack)) = true
    · rw [inG b q] at z
      exact ⟨z, by simpa [Bool.or_eq_true] using q⟩
    · rw [notG b (by simpa using q)] at z
      cases z
  refine ⟨{ s with heap := G, gens := s'.gens, drawn := s'.drawn, toks := s'.toks }, ?_, fun b o z hb => ?_, Heap.UpToSlots.of_keeps fun b o z => (ofG b o z).1, os⟩
  · have un : Un (frs X.stack) [] H H' s.heap G := by
      refine ⟨fun b o z n hb _ => fromB b o (ub.keep b o z n hb), fun b o z n hb _ => ?_, fun b o z n _ => ub.free b o z n, fun b o z _ => ?_, ub.tups, ub.frzs, ub.tbls⟩
      · obtain ⟨sl, q⟩ := ub.slot b o z hb
        exact ⟨sl, (fromF b hb).trans q⟩
      · by_cases hb : b ∈ frs X.stack
        · obtain ⟨sl, q⟩ := ub.slot b o z hb
          exact ⟨_, (fromF b hb).trans q⟩
        · obtain ⟨o2, q⟩ := ub.there b o z hb
          exact ⟨o2, fromB b o2 q⟩
    exact I.call (ch := []) un (hok.kept fromB) ag (fun _ z => nomatch z)
  · obtain ⟨z2, q⟩ := ofG b o z
    rcases q with q | q
    · obtain ⟨o2, q⟩ := Option.isSome_iff_exists.mp q
      have z3 := st b o2 q
      rw [z2] at z3
      cases z3
      exact q
    · exact absurd q hb
theorem XM.of_call (I : Inv X pins σ H s) (hW : ∀ cls d H', E cls d H' → W cls d σ H') {u : Value} (c : CXM X.prog X.w X.stack H s E u s') : XM X W u s' := by
  obtain ⟨a, B, H', cls, d, rfl, ⟨c, kc, fl⟩, hok, ub, na, os, ag, hE⟩ := c
  obtain ⟨sI, I2, nb, up, os2⟩ := call_ground I fl.1 hok ub os ag
  exact ⟨a, B, sI, pins, σ, H', cls, d, rfl, I2, nb, up, ⟨c, kc, .inr (.inl fl)⟩, na, os2, ag, hW _ _ _ hE⟩
/-- it leaves the def -/
theorem XM.leave (hs : X.stack = X.env :: X.outer) (hf : X.env.frame = some X.env.locals) (hex : X.ex = []) {E₁ : Value → Shared → Prop} (hW : ∀ cls d σ H, W cls d σ H → E cls d H) {u : Value} (x : XM X W u s') :
    wpAny (model X.prog X.w) X.A (leaving X.env u) (fun _ s2 => CXM X.prog X.w X.outer X.H_0 X.s_0 E u s2) E₁ s' := by
  obtain ⟨a, B, sI, pins, σ, H, cls, d, rfl, I, nb, up, ⟨c, kc, sky⟩, na, os, ag, w⟩ := x
  have frA : X.A.frames = some (X.env :: X.outer) := by rw [I.ok.frames, hs]
  have noex : ∀ b, b ∉ X.ex := fun b hb => by rw [hex] at hb; cases hb
  have noSt : ∀ b o, X.s_0.heap.get? b = some o → b ∉ X.fs → b ∉ frs X.stack := fun b o z hb hm => by
    rcases List.mem_cons.mp (I.stkSub b hm) with y | y
    · have h1 := Heap.lt_size z
      rw [y] at h1
      exact absurd (Nat.lt_of_lt_of_le h1 I.ok.above) (Nat.lt_irrefl _)
    · exact hb y
  have gr := I.inGround nb
  have go : ∀ h', HandSPX.FlyingZ B X.outer a (Zx c cls d) h' → s'.heap.UpToSlots h' → CXM X.prog X.w X.outer X.H_0 X.s_0 E (.ref a) { s' with heap := h' } := fun h' fl up2 => by
    refine ⟨a, B, H, cls, d, rfl, ⟨c, kc, fl⟩, gr, ?_, na, os.trans I.os, ag, hW _ _ _ _ w⟩
    refine ⟨fun b o z n hb => nb b o (I.base.keep b o z n hb (noex b)) (noSt b o z hb), fun b o z hb => ?_, fun b o z n => I.base.free b o z n (noex b), fun b o z hb => ?_, I.base.tups, I.base.frzs, I.base.tbls⟩
    · obtain ⟨_, o2, z2, nf⟩ := I.ok.funs.mem hb
      rw [z] at z2
      cases z2
      obtain ⟨l1, q1⟩ := I.base.slot b o z (I.ok.frf b hb) hb (noex b)
      obtain ⟨l2, q2⟩ := up b _ q1 nf
      obtain ⟨l3, q3⟩ := up2 b _ q2 nf
      exact ⟨l3, q3⟩
    · obtain ⟨o2, q1⟩ := I.base.there b o z (noex b)
      exact ⟨o2, nb b o2 q1 (noSt b o z hb)⟩
  rw [hs] at sky
  rcases sky with ⟨y1, y2, y3, oe, vs, y4, y5, y6, y7⟩ | fl | hd
  · exact PXN.leaving_firstZ Zx.steady frA y3 hf y4 y1 y2 y6 y7 y5 go
  · exact PXN.leaves_onZ Zx.steady frA hf fl go
  · exact HandSPX.leaves_heldZ hf hd go
theorem takesM_of (hs : X.stack = X.env :: X.outer) (hf : X.env.frame = some X.env.locals) (hex : X.ex = []) {E₁ : Value → Shared → Prop}
    (hx : X.xe = fun e s' => wpAny (model X.prog X.w) X.A (leaving X.env e) (fun _ s2 => CXM X.prog X.w X.outer X.H_0 X.s_0 E e s2) E₁ s') : TakesM X (fun cls d _ H => E cls d H) := fun u s' x => by
  rw [hx]
  exact XM.leave (W := fun cls d _ H => E cls d H) (E := E) hs hf hex (fun _ _ _ _ h => h) x
end
/-- who takes what flies: all (some false), what has None for its context (some true), or None or one that has None (none) -/
abbrev Md := Option Bool
def TkB : Md → Cx → WX → Prop
  | some true, X, W => L2N.Takes X W
  | some false, X, W => L2.Takes X W
  | none, X, W => TakesM X W
theorem TkB.imp {b : Md} {X : Cx} {W W' : WX} (t : TkB b X W) (h : ∀ c d σ H, W' c d σ H → W c d σ H) : TkB b X W' := by
  match b, t with
  | some true, t => exact L2N.Takes.imp t h
  | some false, t => exact L2.Takes.imp t h
  | none, t => exact fun u s' ⟨a, B, sI, pins, σ, H, cls, d, e, I, nb, up, sky, na, os, ag, w⟩ => t u s' ⟨a, B, sI, pins, σ, H, cls, d, e, I, nb, up, sky, na, os, ag, h _ _ _ _ w⟩
theorem sky_imp {B h : Heap} {l : List Env} {a L : Addr} {Z Z' : Obj → Prop} (z : ∀ o, Z o → Z' o) (x : Sky B l a Z L h) : Sky B l a Z' L h := by
  rcases x with ⟨y1, y2, y3, oe, vs, y4, y5, y6, y7⟩ | x | ⟨y1, y2, y3, y4⟩
  · exact .inl ⟨y1, y2, y3, oe, vs, y4, z _ y5, y6, y7⟩
  · exact .inr (.inl (L2H.flyingZ_imp z x))
  · exact .inr (.inr ⟨y1, y2, y3, L2H.tracedZ_imp z y4⟩)
theorem takesM_all {X : Cx} {W : WX} (t : L2.Takes X W) : TakesM X W := fun u s' ⟨a, B, sI, pins, σ, H, cls, d, e, I, nb, up, ⟨c, kc, sky⟩, r⟩ =>
  t u s' ⟨a, B, sI, pins, σ, H, cls, d, e, I, nb, up, sky_imp (fun _ z => z.1) sky, r⟩
theorem TkB.all {b : Md} {X : Cx} {W : WX} (t : TkB b X W) (h : b = some false) : L2.Takes X W := by
  subst h; exact t
theorem TkB.m {b : Md} {X : Cx} {W : WX} (t : TkB b X W) (h : b ≠ some true) : TakesM X W := by
  match b, t with
  | some true, _ => exact absurd rfl h
  | some false, t => exact takesM_all t
  | none, t => exact t
structure Ct where
  X : Cx
  F0 : Hp
  μ0 : Mu
  H0 : Hp
  W : XD
  nn : Md
  tk : TkB nn X (WofD X.K F0 μ0 H0 W)
  po : PassesOwn (model X.prog X.w) X.A X.env X.xe
structure At (Γ : Ct) (F : Hp) (δ : Dl) (μ : Mu) (σ : L2.St) (H : Hp) : Prop where
  st : Step Γ.F0 Γ.μ0 Γ.H0 F μ H
  sx : Sx Γ.X.K F μ H
  fr : Fr Γ.X.K F σ δ
section
variable {Γ : Ct} {F F' H H' : Hp} {δ : Dl} {μ : Mu} {σ : L2.St}
/-- the heap grows by things that nobody knows -/
theorem At.ext (a : At Γ F δ μ σ H) (e : Same H H') : At Γ F δ μ σ H' where
  st := ⟨a.st.ext, fun b o h hn => e _ _ (a.st.keep b o h hn), a.st.new, a.st.cell⟩
  sx := ⟨a.sx.sub.trans e, a.sx.off, a.sx.nd, fun c hc => by
    have h := a.sx.cells c hc
    obtain ⟨p, c⟩ := c
    cases c with
    | lst ds => obtain ⟨vs, h1, h2⟩ := h; exact ⟨vs, e _ _ h1, h2⟩
    | ins C dx ns ds => obtain ⟨vs, h1, h2⟩ := h; exact ⟨vs, e _ _ h1, h2⟩
    | dK ns ds => obtain ⟨vs, h1, h2⟩ := h; exact ⟨vs, e _ _ h1, h2⟩
    | dT ns ds => obtain ⟨vs, h1, h2⟩ := h; exact ⟨vs, e _ _ h1, h2⟩
    | dF od gs ds => exact ⟨e _ _ h.1, h.2⟩
    | set S n => exact e _ _ h⟩
  fr := a.fr
theorem CellOk.mono {K : PySem.W.Frag} {p : Addr} {c : Cell} (e : Same F F') (e' : H' p = H p) (h : CellOk K F H p c) : CellOk K F' H' p c := by
  cases c with
  | lst ds => obtain ⟨vs, h1, h2⟩ := h; exact ⟨vs, e'.trans h1, h2.mono e⟩
  | ins C dx ns ds => obtain ⟨vs, h1, h2, h3⟩ := h; exact ⟨vs, e'.trans h1, h2, h3.mono e⟩
  | dK ns ds => obtain ⟨vs, h1, h2, h3⟩ := h; exact ⟨vs, e'.trans h1, h2, h3.mono e⟩
  | dT ns ds => obtain ⟨vs, h1, h2, h3⟩ := h; exact ⟨vs, e'.trans h1, h2, h3.mono e⟩
  | dF od gs ds => exact ⟨e'.trans h.1, h.2.mono e⟩
  | set S n => exact e'.trans h
theorem CellOk.there {K : PySem.W.Frag} {p : Addr} {c : Cell} (h : CellOk K F H p c) : ∃ o, H p = some o := by
  cases c with
  | lst ds => obtain ⟨vs, h1, h2⟩ := h; exact ⟨_, h1⟩
  | ins C dx ns ds => obtain ⟨vs, h1, h2, h3⟩ := h; exact ⟨_, h1⟩
  | dK ns ds => obtain ⟨vs, h1, h2, h3⟩ := h; exact ⟨_, h1⟩
  | dT ns ds => obtain ⟨vs, h1, h2, h3⟩ := h; exact ⟨_, h1⟩
  | dF od gs ds => exact ⟨_, h.1⟩
  | set S n => exact ⟨_, h⟩
theorem same_upd {p : Addr} {o : HO} (h : H p = none) : Same H (upd H p o) := fun a u e => by
  rw [upd_ne (ne_of_none e h)]; exact e
theorem same_upd2 {p : Addr} {o : HO} (s : Same F H) : Same (upd F p o) (upd H p o) := fun a u e => by
  by_cases q : a = p
  · subst q; rw [upd_same] at e ⊢; exact e
  · rw [upd_ne q] at e ⊢; exact s _ _ e
/-- a new thing, known from now on -/
theorem At.pers (a : At Γ F δ μ σ H) {p : Addr} (o : HO) (hp : H p = none) : At Γ (upd F p o) δ μ σ (upd H p o) := by
  have hF : F p = none := a.sx.sub.free hp
  have sF : Same F (upd F p o) := same_upd hF
  have hμ : p ∉ dom μ := fun hm => by
    obtain ⟨c, hc, e⟩ := List.mem_map.mp hm
    obtain ⟨u, hu⟩ := (a.sx.cells c hc).there
    rw [e, hp] at hu
    cases hu
  refine ⟨⟨a.st.ext.trans sF, fun b u h hn => ?_, fun b u h h0 => ?_, a.st.cell⟩, ⟨same_upd2 a.sx.sub, fun c hc => ?_, a.sx.nd, fun c hc => ?_⟩, a.fr.mono sF⟩
  · exact same_upd hp _ _ (a.st.keep b u h hn)
  · by_cases q : b = p
    · subst q; exact a.st.back hp
    · rw [upd_ne q] at h; exact a.st.new b u h h0
  · rw [upd_ne (fun e => hμ (by rw [← e]; exact List.mem_map.mpr ⟨c, hc, rfl⟩))]; exact a.sx.off c hc
  · refine (a.sx.cells c hc).mono sF (upd_ne fun e => hμ (by rw [← e]; exact List.mem_map.mpr ⟨c, hc, rfl⟩))
/-- a new thing, owned -/
theorem At.own (a : At Γ F δ μ σ H) {p : Addr} {o : HO} {c : Cell} (hp : H p = none) (hc : CellOk Γ.X.K F (upd H p o) p c) : At Γ F δ ((p, c) :: μ) σ (upd H p o) := by
  have hF : F p = none := a.sx.sub.free hp
  have hμ : p ∉ dom μ := fun hm => by
    obtain ⟨c, hc, e⟩ := List.mem_map.mp hm
    obtain ⟨u, hu⟩ := (a.sx.cells c hc).there
    rw [e, hp] at hu
    cases hu
  have b := a.ext (same_upd (o := o) hp)
  refine ⟨⟨b.st.ext, b.st.keep, b.st.new, fun x hx => ?_⟩, ⟨b.sx.sub, fun x hx => ?_, ?_, fun x hx => ?_⟩, b.fr⟩
  · rcases List.mem_cons.mp hx with e | e
    · rw [e]; exact (a.st.back hp).symm
    · exact b.st.cell x e
  · rcases List.mem_cons.mp hx with e | e
    · rw [e]; exact hF
    · exact b.sx.off x e
  · exact List.nodup_cons.mpr ⟨hμ, a.sx.nd⟩
  · rcases List.mem_cons.mp hx with e | e
    · rw [e]; exact hc
    · exact b.sx.cells x e
/-- an owned cell is let go: the thing is known from now on -/
theorem At.freeze {p : Addr} {c : Cell} {μ1 μ2 : Mu} {o : HO} (a : At Γ F δ (μ1 ++ (p, c) :: μ2) σ H) (hp : H p = some o) : At Γ (upd F p o) δ (μ1 ++ μ2) σ H := by
  have hF : F p = none := a.sx.off (p, c) (List.mem_append_right _ List.mem_cons_self)
  have sF : Same F (upd F p o) := same_upd hF
  have nd := a.sx.nd
  have e : dom (μ1 ++ (p, c) :: μ2) = dom μ1 ++ p :: dom μ2 := by unfold dom; rw [List.map_append, List.map_cons]
  rw [e] at nd
  have e2 : dom (μ1 ++ μ2) = dom μ1 ++ dom μ2 := by unfold dom; rw [List.map_append]
  have nd2 := List.nodup_append.mp nd
  have hnot : p ∉ dom (μ1 ++ μ2) := by
    rw [e2]; intro h
    rcases List.mem_append.mp h with q | q
    · exact (nd2.2.2 p q p List.mem_cons_self) rfl
    · exact (List.nodup_cons.mp nd2.2.1).1 q
  have sub : ∀ x ∈ μ1 ++ μ2, x ∈ μ1 ++ (p, c) :: μ2 := fun x hx => by
    rcases List.mem_append.mp hx with q | q
    · exact List.mem_append_left _ q
    · exact List.mem_append_right _ (List.mem_cons_of_mem _ q)
  refine ⟨⟨a.st.ext.trans sF, a.st.keep, fun b u h h0 => ?_, fun x hx => ?_⟩, ⟨fun b u h => ?_, fun x hx => ?_, ?_, fun x hx => ?_⟩, a.fr.mono sF⟩
  · by_cases q : b = p
    · rw [q]
      exact (a.st.cell p (by rw [e]; exact List.mem_append_right _ List.mem_cons_self)).symm
    · rw [upd_ne q] at h; exact a.st.new b u h h0
  · obtain ⟨y, hy, ey⟩ := List.mem_map.mp hx
    exact a.st.cell x (List.mem_map.mpr ⟨y, sub y hy, ey⟩)
  · by_cases q : b = p
    · rw [q, upd_same] at h; rw [q, ← h]; exact hp
    · rw [upd_ne q] at h; exact a.sx.sub _ _ h
  · rw [upd_ne (fun e3 => hnot (by rw [← e3]; exact List.mem_map.mpr ⟨x, hx, rfl⟩))]; exact a.sx.off x (sub x hx)
  · rw [e2]
    exact List.nodup_append.mpr ⟨nd2.1, (List.nodup_cons.mp nd2.2.1).2, fun a' ha' b' hb' => nd2.2.2 a' ha' b' (List.mem_cons_of_mem _ hb')⟩
  · exact (a.sx.cells x (sub x hx)).mono sF rfl
/-- an owned cell changes -/
theorem At.put {p : Addr} {c c' : Cell} {μ1 μ2 : Mu} {o : HO} (a : At Γ F δ (μ1 ++ (p, c) :: μ2) σ H) (hc : CellOk Γ.X.K F (upd H p o) p c') : At Γ F δ (μ1 ++ (p, c') :: μ2) σ (upd H p o) := by
  have hF : F p = none := a.sx.off (p, c) (List.mem_append_right _ List.mem_cons_self)
  have nd := a.sx.nd
  have e : ∀ c, dom (μ1 ++ (p, c) :: μ2) = dom μ1 ++ p :: dom μ2 := fun c => by unfold dom; rw [List.map_append, List.map_cons]
  have mem : ∀ x ∈ μ1 ++ (p, c') :: μ2, x = (p, c') ∨ (x ∈ μ1 ++ (p, c) :: μ2 ∧ x.1 ≠ p) := fun x hx => by
    rw [e] at nd
    have nd2 := List.nodup_append.mp nd
    rcases List.mem_append.mp hx with q | q
    · refine .inr ⟨List.mem_append_left _ q, fun z => ?_⟩
      exact (nd2.2.2 p (by rw [← z]; exact List.mem_map.mpr ⟨x, q, rfl⟩) p List.mem_cons_self) rfl
    · rcases List.mem_cons.mp q with z | z
      · exact .inl z
      · refine .inr ⟨List.mem_append_right _ (List.mem_cons_of_mem _ z), fun y => ?_⟩
        exact (List.nodup_cons.mp nd2.2.1).1 (by rw [← y]; exact List.mem_map.mpr ⟨x, z, rfl⟩)
  have hd : dom (μ1 ++ (p, c') :: μ2) = dom (μ1 ++ (p, c) :: μ2) := by rw [e, e]
  refine ⟨⟨a.st.ext, fun b u h hn => ?_, a.st.new, fun x hx => a.st.cell x (by rw [← hd]; exact hx)⟩, ⟨fun b u h => ?_, fun x hx => ?_, by rw [hd]; exact nd, fun x hx => ?_⟩, a.fr⟩
  · have hb : b ≠ p := fun z => by
      rcases a.st.cell p (by rw [e]; exact List.mem_append_right _ List.mem_cons_self) with q | q
      · exact hn (by rw [z]; exact q)
      · rw [z] at h; rw [h] at q; cases q
    rw [upd_ne hb]
    exact a.st.keep b u h hn
  · rw [upd_ne (fun z => by rw [z, hF] at h; cases h)]; exact a.sx.sub _ _ h
  · rcases mem x hx with z | ⟨z, _⟩
    · rw [z]; exact hF
    · exact a.sx.off x z
  · rcases mem x hx with z | ⟨z, y⟩
    · rw [z]; exact hc
    · exact (a.sx.cells x z).mono (Same.refl F) (upd_ne y)
/-- from one start to an earlier one -/
theorem At.fr_set (a : At Γ F δ μ σ H) (i : Nat) {v : V} {d : D} (r : Dp Γ.X.K F d v) : At Γ F (δ.set i (some d)) μ (σ.set i (some v)) H := ⟨a.st, a.sx, a.fr.set i r⟩
theorem At.var (a : At Γ F δ μ σ H) {i : Nat} {d : D} (h : δ[i]? = some (some d)) : ∃ v, σ[i]? = some (some v) ∧ Dp Γ.X.K F d v := a.fr.2 i d h
end
end PD
/-! PD2: the judgements over data, the rules of expressions, statements, loops. -/
namespace PD
open PySem PySem.Spec PyProof.Rows L2
/-! ### the semantic readings -/
def we (X : Cx) (e : Expr) : TE := fun σ H Q => ∀ (pins : List (Addr × Obj)) (s : Shared), Inv X pins σ H s → wpAny (model X.prog X.w) X.A (eval e X.env) (EP X pins σ Q) X.xe s
def wt (X : Cx) (e : Expr) : TT := fun σ H Q => ∀ (pins : List (Addr × Obj)) (s : Shared), Inv X pins σ H s → wpAny (model X.prog X.w) X.A (isTrue e X.env (eval e X.env)) (TP X pins σ Q) X.xe s
def ww (X : Cx) (e : Expr) : TT := fun σ H Q => ∀ (whole : Sem Value) (pins : List (Addr × Obj)) (s : Shared), Inv X pins σ H s → wpAny (model X.prog X.w) X.A (isTrue e X.env whole) (TP X pins σ Q) X.xe s
def wa (X : Cx) (es : List Expr) : TA := fun σ H Q => ∀ (pos : Pos) (pins : List (Addr × Obj)) (s : Shared), Inv X pins σ H s → wpAny (model X.prog X.w) X.A (spliced (backTo pos (starEach es X.env))) (AP X pins σ Q) X.xe s
def ws (X : Cx) (st : Stmt) : TS := fun D σ H => ∀ (pins : List (Addr × Obj)) (s : Shared), Inv X pins σ H s → wpAny (model X.prog X.w) X.A (exec st X.env) (SP X pins D) X.xe s
def wss (X : Cx) (st : List Stmt) : TS := fun D σ H => ∀ (pins : List (Addr × Obj)) (s : Shared), Inv X pins σ H s → wpAny (model X.prog X.w) X.A (execs st X.env) (SP X pins D) X.xe s
def wg (X : Cx) (tg : Expr) : TG := fun v σ H Q => ∀ (pins : List (Addr × Obj)) (s : Shared) (u : Value), Inv X pins σ H s → RelV v u →
    wpAny (model X.prog X.w) X.A (assign tg X.env u) (fun _ s' => ∃ σ' H', Inv X pins σ' H' s' ∧ Q σ' H') X.xe s
def wgs (X : Cx) (ts : List Expr) : TGs := fun vs σ H Q => ∀ (pins : List (Addr × Obj)) (s : Shared) (us : List Value), Inv X pins σ H s → Vals vs us →
    wpAny (model X.prog X.w) X.A (assignInOrder ((assignEach ts X.env).map (·.2)) us) (fun _ s' => ∃ σ' H', Inv X pins σ' H' s' ∧ Q σ' H') X.xe s
def wi (X : Cx) (tg iter : Expr) : TI := fun σ H R => ∀ (pins : List (Addr × Obj)) (s : Shared), Inv X pins σ H s →
    wpAny (model X.prog X.w) X.A (eval iter X.env) (fun v s1 => wpAny (model X.prog X.w) X.A (pyIter v) (PIE X pins σ tg R) X.xe s1) X.xe s
section
variable {X : Cx} {e : Expr} {es : List Expr} {st : Stmt} {sts : List Stmt} {tg iter : Expr}
theorem pe_we : PE X e (we X e) := ⟨fun pins s _ _ _ I h => h pins s I⟩
theorem pt_wt : PT X e (wt X e) := ⟨fun pins s _ _ _ I h => h pins s I⟩
theorem pw_ww : PW X e (ww X e) := ⟨fun wh pins s _ _ _ I h => h wh pins s I⟩
theorem pa_wa : PA X es (wa X es) := ⟨fun pos pins s _ _ _ I h => h pos pins s I⟩
theorem ps_ws : PS X st (ws X st) := ⟨fun pins s _ _ _ I h => h pins s I⟩
theorem pss_wss : PSs X sts (wss X sts) := ⟨fun pins s _ _ _ I h => h pins s I⟩
theorem pg_wg : PG X tg (wg X tg) := ⟨fun pins s _ _ _ u _ I r h => h pins s u I r⟩
theorem pgs_wgs : PGs X es (wgs X es) := ⟨fun pins s _ _ _ us _ I r h => h pins s us I r⟩
theorem pi_wi : PI X tg iter (wi X tg iter) := ⟨fun pins s _ _ _ I h => h pins s I⟩
theorem we_of {t : TE} {σ : L2.St} {H : Hp} {Q : VK} (h : PE X e t) (k : t σ H Q) : we X e σ H Q := fun pins s I => h.run pins s σ H Q I k
theorem wt_of {t : TT} {σ : L2.St} {H : Hp} {Q : Bool → Hp → Prop} (h : PT X e t) (k : t σ H Q) : wt X e σ H Q := fun pins s I => h.run pins s σ H Q I k
theorem ww_of {t : TT} {σ : L2.St} {H : Hp} {Q : Bool → Hp → Prop} (h : PW X e t) (k : t σ H Q) : ww X e σ H Q := fun wh pins s I => h.run wh pins s σ H Q I k
theorem wa_of {t : TA} {σ : L2.St} {H : Hp} {Q : List V → Hp → Prop} (h : PA X es t) (k : t σ H Q) : wa X es σ H Q := fun pos pins s I => h.run pos pins s σ H Q I k
theorem ws_of {t : TS} {σ : L2.St} {H : Hp} {D : Ends} (h : PS X st t) (k : t D σ H) : ws X st D σ H := fun pins s I => h.run pins s σ H D I k
theorem wss_of {t : TS} {σ : L2.St} {H : Hp} {D : Ends} (h : PSs X sts t) (k : t D σ H) : wss X sts D σ H := fun pins s I => h.run pins s σ H D I k
theorem wg_of {t : TG} {v : V} {σ : L2.St} {H : Hp} {Q : L2.St → Hp → Prop} (h : PG X tg t) (k : t v σ H Q) : wg X tg v σ H Q := fun pins s u I r => h.run pins s σ H v u Q I r k
theorem wgs_of {t : TGs} {vs : List V} {σ : L2.St} {H : Hp} {Q : L2.St → Hp → Prop} (h : PGs X es t) (k : t vs σ H Q) : wgs X es vs σ H Q := fun pins s us I r => h.run pins s σ H vs us Q I r k
theorem wi_of {t : TI} {σ : L2.St} {H : Hp} {R : It → Hp → Prop} (h : PI X tg iter t) (k : t σ H R) : wi X tg iter σ H R := fun pins s I => h.run pins s σ H R I k
theorem we_mono {σ : L2.St} {H : Hp} {Q Q' : VK} (h : we X e σ H Q) (k : ∀ v H', Q v H' → Q' v H') : we X e σ H Q' := fun pins s I =>
  thn (h pins s I) fun u s1 ⟨v, H1, I1, r, q⟩ => ⟨v, H1, I1, r, k v H1 q⟩
theorem wt_mono {σ : L2.St} {H : Hp} {Q Q' : Bool → Hp → Prop} (h : wt X e σ H Q) (k : ∀ v H', Q v H' → Q' v H') : wt X e σ H Q' := fun pins s I =>
  thn (h pins s I) fun u s1 ⟨H1, I1, q⟩ => ⟨H1, I1, k u H1 q⟩
theorem ww_mono {σ : L2.St} {H : Hp} {Q Q' : Bool → Hp → Prop} (h : ww X e σ H Q) (k : ∀ v H', Q v H' → Q' v H') : ww X e σ H Q' := fun wh pins s I =>
  thn (h wh pins s I) fun u s1 ⟨H1, I1, q⟩ => ⟨H1, I1, k u H1 q⟩
theorem wa_mono {σ : L2.St} {H : Hp} {Q Q' : List V → Hp → Prop} (h : wa X es σ H Q) (k : ∀ v H', Q v H' → Q' v H') : wa X es σ H Q' := fun pos pins s I =>
  thn (h pos pins s I) fun u s1 ⟨v, H1, I1, r, q⟩ => ⟨v, H1, I1, r, k v H1 q⟩
theorem wg_mono {v : V} {σ : L2.St} {H : Hp} {Q Q' : L2.St → Hp → Prop} (h : wg X tg v σ H Q) (k : ∀ σ' H', Q σ' H' → Q' σ' H') : wg X tg v σ H Q' := fun pins s u I r =>
  thn (h pins s u I r) fun _ s1 ⟨σ', H1, I1, q⟩ => ⟨σ', H1, I1, k σ' H1 q⟩
theorem wgs_mono {vs : List V} {σ : L2.St} {H : Hp} {Q Q' : L2.St → Hp → Prop} (h : wgs X es vs σ H Q) (k : ∀ σ' H', Q σ' H' → Q' σ' H') : wgs X es vs σ H Q' := fun pins s u I r =>
  thn (h pins s u I r) fun _ s1 ⟨σ', H1, I1, q⟩ => ⟨σ', H1, I1, k σ' H1 q⟩
theorem wi_mono {σ : L2.St} {H : Hp} {R R' : It → Hp → Prop} (h : wi X tg iter σ H R) (k : ∀ J H', R J H' → R' J H') : wi X tg iter σ H R' := fun pins s I =>
  thn (h pins s I) fun v s1 q => thn q fun itv s2 ⟨it, fp, tn, J, H', e, I2, T, st, f, r⟩ => ⟨it, fp, tn, J, H', e, I2, T, st, f, k J H' r⟩
structure EndsLe (D D' : Ends) : Prop where
  nx : ∀ σ H, D.nx σ H → D'.nx σ H
  rt : ∀ v H, D.rt v H → D'.rt v H
  bk : ∀ σ H, D.bk σ H → D'.bk σ H
  ct : ∀ σ H, D.ct σ H → D'.ct σ H
theorem SP_mono {pins : List (Addr × Obj)} {D D' : Ends} (l : EndsLe D D') {f : Flow} {s' : Shared} (h : SP X pins D f s') : SP X pins D' f s' := by
  cases f with
  | next => obtain ⟨σ', H', I, q⟩ := h; exact ⟨σ', H', I, l.nx _ _ q⟩
  | brk => obtain ⟨σ', H', I, q⟩ := h; exact ⟨σ', H', I, l.bk _ _ q⟩
  | cont => obtain ⟨σ', H', I, q⟩ := h; exact ⟨σ', H', I, l.ct _ _ q⟩
  | ret u => obtain ⟨v, σ', H', I, r, q⟩ := h; exact ⟨v, σ', H', I, r, l.rt _ _ q⟩
theorem ws_mono {σ : L2.St} {H : Hp} {D D' : Ends} (h : ws X st D σ H) (l : EndsLe D D') : ws X st D' σ H := fun pins s I => thn (h pins s I) fun _ _ q => SP_mono l q
theorem wss_mono {σ : L2.St} {H : Hp} {D D' : Ends} (h : wss X sts D σ H) (l : EndsLe D D') : wss X sts D' σ H := fun pins s I => thn (h pins s I) fun _ _ q => SP_mono l q
end
/-! ### the judgements over data -/
def PostE (Γ : Ct) (F : Hp) (δ : Dl) (σ : L2.St) (Q : D → Mu → Prop) : VK := fun v H' => ∃ F' d μ', Same F F' ∧ At Γ F' δ μ' σ H' ∧ Dp Γ.X.K F' d v ∧ Q d μ'
def PostA (Γ : Ct) (F : Hp) (δ : Dl) (σ : L2.St) (Q : List D → Mu → Prop) : List V → Hp → Prop := fun vs H' => ∃ F' ds μ', Same F F' ∧ At Γ F' δ μ' σ H' ∧ Dps Γ.X.K F' ds vs ∧ Q ds μ'
def PostT (Γ : Ct) (F : Hp) (δ : Dl) (σ : L2.St) (Q : Bool → Mu → Prop) : Bool → Hp → Prop := fun b H' => ∃ F' μ', Same F F' ∧ At Γ F' δ μ' σ H' ∧ Q b μ'
def PostN (Γ : Ct) (F : Hp) (Q : Dl → Mu → Prop) : L2.St → Hp → Prop := fun σ' H' => ∃ F' δ' μ', Same F F' ∧ At Γ F' δ' μ' σ' H' ∧ Q δ' μ'
def PostR (Γ : Ct) (F : Hp) (Q : D → Mu → Prop) : VK := fun v H' => ∃ F' d μ', Same F F' ∧ Step Γ.F0 Γ.μ0 Γ.H0 F' μ' H' ∧ Sx Γ.X.K F' μ' H' ∧ Dp Γ.X.K F' d v ∧ Q d μ'
structure En where
  nx : Dl → Mu → Prop
  rt : D → Mu → Prop
  bk : Dl → Mu → Prop := fun _ _ => False
  ct : Dl → Mu → Prop := fun _ _ => False
def En.to (E : En) (Γ : Ct) (F : Hp) : Ends := ⟨PostN Γ F E.nx, PostR Γ F E.rt, PostN Γ F E.bk, PostN Γ F E.ct⟩
def ed (Γ : Ct) (e : Expr) (δ : Dl) (μ : Mu) (Q : D → Mu → Prop) : Prop := ∀ F σ H, At Γ F δ μ σ H → we Γ.X e σ H (PostE Γ F δ σ Q)
def et (Γ : Ct) (e : Expr) (δ : Dl) (μ : Mu) (Q : Bool → Mu → Prop) : Prop := ∀ F σ H, At Γ F δ μ σ H → wt Γ.X e σ H (PostT Γ F δ σ Q)
def ew (Γ : Ct) (e : Expr) (δ : Dl) (μ : Mu) (Q : Bool → Mu → Prop) : Prop := ∀ F σ H, At Γ F δ μ σ H → ww Γ.X e σ H (PostT Γ F δ σ Q)
def ea (Γ : Ct) (es : List Expr) (δ : Dl) (μ : Mu) (Q : List D → Mu → Prop) : Prop := ∀ F σ H, At Γ F δ μ σ H → wa Γ.X es σ H (PostA Γ F δ σ Q)
def sd (Γ : Ct) (st : Stmt) (δ : Dl) (μ : Mu) (E : En) : Prop := ∀ F σ H, At Γ F δ μ σ H → ws Γ.X st (E.to Γ F) σ H
def sds (Γ : Ct) (st : List Stmt) (δ : Dl) (μ : Mu) (E : En) : Prop := ∀ F σ H, At Γ F δ μ σ H → wss Γ.X st (E.to Γ F) σ H
def gd (Γ : Ct) (tg : Expr) (d : D) (δ : Dl) (μ : Mu) (Q : Dl → Mu → Prop) : Prop := ∀ F σ H v, At Γ F δ μ σ H → Dp Γ.X.K F d v → wg Γ.X tg v σ H (PostN Γ F Q)
def gds (Γ : Ct) (tg : List Expr) (ds : List D) (δ : Dl) (μ : Mu) (Q : Dl → Mu → Prop) : Prop := ∀ F σ H vs, At Γ F δ μ σ H → Dps Γ.X.K F ds vs → wgs Γ.X tg vs σ H (PostN Γ F Q)
section
variable {Γ : Ct} {F F' H H' : Hp} {δ : Dl} {μ : Mu} {σ : L2.St}
theorem PostN.up {Q : Dl → Mu → Prop} (e : Same F F') {σ' : L2.St} {H' : Hp} (h : PostN Γ F' Q σ' H') : PostN Γ F Q σ' H' := by
  obtain ⟨F2, δ', μ', s, a, q⟩ := h; exact ⟨F2, δ', μ', e.trans s, a, q⟩
theorem PostR.up {Q : D → Mu → Prop} (e : Same F F') {v : V} {H' : Hp} (h : PostR Γ F' Q v H') : PostR Γ F Q v H' := by
  obtain ⟨F2, d, μ', s, a, q⟩ := h; exact ⟨F2, d, μ', e.trans s, a, q⟩
theorem PostE.up {Q : D → Mu → Prop} (e : Same F F') {v : V} {H' : Hp} (h : PostE Γ F' δ σ Q v H') : PostE Γ F δ σ Q v H' := by
  obtain ⟨F2, d, μ', s, a, q⟩ := h; exact ⟨F2, d, μ', e.trans s, a, q⟩
theorem PostT.up {Q : Bool → Mu → Prop} (e : Same F F') {v : Bool} {H' : Hp} (h : PostT Γ F' δ σ Q v H') : PostT Γ F δ σ Q v H' := by
  obtain ⟨F2, μ', s, a, q⟩ := h; exact ⟨F2, μ', e.trans s, a, q⟩
theorem PostA.up {Q : List D → Mu → Prop} (e : Same F F') {v : List V} {H' : Hp} (h : PostA Γ F' δ σ Q v H') : PostA Γ F δ σ Q v H' := by
  obtain ⟨F2, d, μ', s, a, q⟩ := h; exact ⟨F2, d, μ', e.trans s, a, q⟩
theorem En.up {E : En} (e : Same F F') : EndsLe (E.to Γ F') (E.to Γ F) := ⟨fun _ _ h => h.up e, fun _ _ h => h.up e, fun _ _ h => h.up e, fun _ _ h => h.up e⟩
structure EnLe (E E' : En) : Prop where
  nx : ∀ δ μ, E.nx δ μ → E'.nx δ μ
  rt : ∀ d μ, E.rt d μ → E'.rt d μ
  bk : ∀ δ μ, E.bk δ μ → E'.bk δ μ
  ct : ∀ δ μ, E.ct δ μ → E'.ct δ μ
theorem PostN.mono {Q Q' : Dl → Mu → Prop} {σ' : L2.St} {H' : Hp} (h : PostN Γ F Q σ' H') (k : ∀ δ μ, Q δ μ → Q' δ μ) : PostN Γ F Q' σ' H' := by
  obtain ⟨F2, δ', μ', s, a, q⟩ := h; exact ⟨F2, δ', μ', s, a, k _ _ q⟩
theorem PostR.mono {Q Q' : D → Mu → Prop} {v : V} {H' : Hp} (h : PostR Γ F Q v H') (k : ∀ δ μ, Q δ μ → Q' δ μ) : PostR Γ F Q' v H' := by
  obtain ⟨F2, d, μ', s, a, b, r, q⟩ := h; exact ⟨F2, d, μ', s, a, b, r, k _ _ q⟩
theorem EnLe.to {E E' : En} (l : EnLe E E') : EndsLe (E.to Γ F) (E'.to Γ F) := ⟨fun _ _ h => h.mono l.nx, fun _ _ h => h.mono l.rt, fun _ _ h => h.mono l.bk, fun _ _ h => h.mono l.ct⟩
theorem sd_mono {st : Stmt} {E E' : En} (h : sd Γ st δ μ E) (l : EnLe E E') : sd Γ st δ μ E' := fun F σ H a => ws_mono (h F σ H a) l.to
theorem ed_mono {e : Expr} {Q Q' : D → Mu → Prop} (h : ed Γ e δ μ Q) (k : ∀ d μ, Q d μ → Q' d μ) : ed Γ e δ μ Q' := fun F σ H a => we_mono (h F σ H a) fun v H' ⟨F', d, μ', s, a', r, q⟩ => ⟨F', d, μ', s, a', r, k _ _ q⟩
theorem et_mono {e : Expr} {Q Q' : Bool → Mu → Prop} (h : et Γ e δ μ Q) (k : ∀ d μ, Q d μ → Q' d μ) : et Γ e δ μ Q' := fun F σ H a => wt_mono (h F σ H a) fun v H' ⟨F', μ', s, a', q⟩ => ⟨F', μ', s, a', k _ _ q⟩
end
/-! ### names, constants -/
section
variable {Γ : Ct} {δ : Dl} {μ : Mu} {Q : D → Mu → Prop} {pos : Pos} {a b e : Expr}
theorem PostE.here {F : Hp} {H : Hp} {σ : L2.St} {d : D} {v : V} (h : At Γ F δ μ σ H) (r : Dp Γ.X.K F d v) (q : Q d μ) : PostE Γ F δ σ Q v H := ⟨F, d, μ, Same.refl F, h, r, q⟩
/-- a thing known from now on -/
theorem PostE.new {F : Hp} {H : Hp} {σ : L2.St} {d : D} {p : Addr} {o : HO} (h : At Γ F δ μ σ H) (hp : H p = none) (r : Dp Γ.X.K (upd F p o) d (.ref p)) (q : Q d μ) : PostE Γ F δ σ Q (.ref p) (upd H p o) :=
  ⟨upd F p o, d, μ, same_upd (h.sx.sub.free hp), h.pers o hp, r, q⟩
theorem PostE.own {F : Hp} {H : Hp} {σ : L2.St} {p : Addr} {o : HO} {c : Cell} (h : At Γ F δ μ σ H) (hp : H p = none) (hc : CellOk Γ.X.K F (upd H p o) p c) (q : Q (.ref p) ((p, c) :: μ)) : PostE Γ F δ σ Q (.ref p) (upd H p o) :=
  ⟨F, .ref p, (p, c) :: μ, Same.refl F, h.own hp hc, by rw [Dp], q⟩
theorem ed_name {i : Nat} {x : Str} {d : D} (hN : Γ.X.N[i]? = some x) (hδ : δ[i]? = some (some d)) (q : Q d μ) (hv : Vis Γ.X.env.scope x := by first | exact Or.inl rfl | exact Or.inr (Or.inl rfl) | exact Or.inr (Or.inr rfl))
    (hd : (x == ("__debug__" : Str)) = false := by decide +kernel) (hcd : (x == ("__classdict__" : Str)) = false := by decide +kernel) : ed Γ (.Name x pos) δ μ Q := fun F σ H h => by
  obtain ⟨v, e1, r⟩ := h.var hδ
  exact we_of (pe_var hN hv hd hcd) ⟨v, e1, PostE.here h r q⟩
theorem ed_int {i j} (q : Q (.int i) μ) : ed Γ (.Constant (.int i) j pos) δ μ Q := fun F σ H h => we_of pe_int (PostE.here (v := .int i) h (by rw [Dp]) q)
theorem ed_bl {i j} (q : Q (.bl i) μ) : ed Γ (.Constant (.bool i) j pos) δ μ Q := fun F σ H h => we_of pe_bl (PostE.here (v := .bl i) h (by rw [Dp]) q)
theorem ed_str {i j} (q : Q (.str i) μ) : ed Γ (.Constant (.str i) j pos) δ μ Q := fun F σ H h => we_of pe_str (PostE.here (v := .str i) h (by rw [Dp]) q)
theorem ed_non {j} (q : Q .non μ) : ed Γ (.Constant .none j pos) δ μ Q := fun F σ H h => we_of pe_non (PostE.here (v := .non) h (by rw [Dp]) q)
theorem ed_glob {x : Str} {v : V} {u : Value} {d : D} (hm : Γ.X.mg x = some u) (r : RelV v u) (hD : ∀ F, Dp Γ.X.K F d v) (q : Q d μ) (hg : Gl Γ.X x := by rfl) (hd : (x == ("__debug__" : Str)) = false := by decide +kernel) : ed Γ (.Name x pos) δ μ Q := fun F σ H h =>
  we_of (pe_glob hg hm r hd) (PostE.here (v := v) h (hD F) q)
/-! ### operators, calls, subscripts: semantic -/
/-- what a two-place function does with values -/
def rwf (X : Cx) (f : Value → Value → Sem Value) : R2 := fun x y H Q => ∀ (pins : List (Addr × Obj)) (s : Shared) (σ : L2.St) (v u : Value), Inv X pins σ H s → RelV x v → RelV y u → wpAny (model X.prog X.w) X.A (f v u) (EP X pins σ Q) X.xe s
theorem rwf_ok {X : Cx} {f : Value → Value → Sem Value} : OpR X f (rwf X f) := fun pins s σ H x y v u Q I rx ry h => h pins s σ v u I rx ry
theorem EP_mono {X : Cx} {pins : List (Addr × Obj)} {σ : L2.St} {Q Q' : VK} {u : Value} {s : Shared} (h : EP X pins σ Q u s) (k : ∀ v H, Q v H → Q' v H) : EP X pins σ Q' u s := by
  obtain ⟨v, H, I, r, q⟩ := h; exact ⟨v, H, I, r, k v H q⟩
theorem rwf_mono {X : Cx} {f : Value → Value → Sem Value} {x y : V} {H : Hp} {Q Q' : VK} (h : rwf X f x y H Q) (k : ∀ v H', Q v H' → Q' v H') : rwf X f x y H Q' := fun pins s σ v u I rx ry => thn (h pins s σ v u I rx ry) fun _ _ e => EP_mono e k
def opd (Γ : Ct) (f : Value → Value → Sem Value) (x y : D) (δ : Dl) (μ : Mu) (Q : D → Mu → Prop) : Prop := ∀ F σ H vx vy, At Γ F δ μ σ H → Dp Γ.X.K F x vx → Dp Γ.X.K F y vy → rwf Γ.X f vx vy H (PostE Γ F δ σ Q)
theorem ed_two {f : Value → Value → Sem Value} (h : ed Γ a δ μ fun x μ1 => ed Γ b δ μ1 fun y μ2 => opd Γ f x y δ μ2 Q) (F σ H) (at_ : At Γ F δ μ σ H) : tOp (rwf Γ.X f) (we Γ.X a) (we Γ.X b) σ H (PostE Γ F δ σ Q) := by
  refine we_mono (h F σ H at_) fun x H1 ⟨F1, d1, μ1, s1, h1, r1, q1⟩ => ?_
  refine we_mono (q1 F1 σ H1 h1) fun y H2 ⟨F2, d2, μ2, s2, h2, r2, q2⟩ => ?_
  exact rwf_mono (q2 F2 σ H2 x y h2 (r1.mono s2) r2) fun v H' z => PostE.up (s1.trans s2) z
theorem ed_bin {op : Operator} (h : ed Γ a δ μ fun x μ1 => ed Γ b δ μ1 fun y μ2 => opd Γ (binaryOp op) x y δ μ2 Q) : ed Γ (.BinOp a op b pos) δ μ Q := fun F σ H at_ => we_of (pe_op rwf_ok pe_we pe_we) (ed_two h F σ H at_)
theorem ed_cmp {op : CmpOp} (hb : behindInMarks op b = false) (h : ed Γ a δ μ fun x μ1 => ed Γ b δ μ1 fun y μ2 => opd Γ (compareOp op) x y δ μ2 Q) : ed Γ (.Compare a [op] [b] pos) δ μ Q := fun F σ H at_ => we_of (pe_cmpR rwf_ok pe_we pe_we hb) (ed_two h F σ H at_)
theorem et_cmp {op : CmpOp} {Q : Bool → Mu → Prop} (hb : behindInMarks op b = false) (h : ed Γ a δ μ fun x μ1 => ed Γ b δ μ1 fun y μ2 => opd Γ (compareOp op) x y δ μ2 fun d μ' => ∃ c, d = .bl c ∧ Q c μ') : et Γ (.Compare a [op] [b] pos) δ μ Q := fun F σ H at_ => by
  refine wt_of (pt_cmpR rwf_ok pe_we pe_we hb) (we_mono (ed_two h F σ H at_) fun x H1 z1 => we_mono z1 fun y H2 z2 => rwf_mono z2 fun v H' z3 => ?_)
  obtain ⟨F', d, μ', s, a', rr, c, rfl, q⟩ := z3
  rw [Dp] at rr
  exact ⟨c, rr, F', μ', s, a', q⟩
/-- a < b < c -/
theorem ed_chain {op op' : CmpOp} {c : Expr} (h : ed Γ a δ μ fun x μ1 => ed Γ b δ μ1 fun y μ2 => opd Γ (compareOp op) x y δ μ2 fun d μ3 => ∃ k, d = .bl k ∧ if k = true then ed Γ c δ μ3 fun z μ4 => opd Γ (compareOp op') y z δ μ4 Q else Q (.bl false) μ3)
    (hm : lastMarks [op, op'] [b, c] = false := by with_unfolding_all rfl) : ed Γ (.Compare a [op, op'] [b, c] pos) δ μ Q := fun F σ H at_ => by
  refine we_of (pe_chain rwf_ok rwf_ok pe_we pe_we pe_we hm) ?_
  refine we_mono (h F σ H at_) fun x H1 ⟨F1, d1, μ1, s1, h1, r1, q1⟩ => ?_
  refine we_mono (q1 F1 σ H1 h1) fun y H2 ⟨F2, d2, μ2, s2, h2, r2, q2⟩ => ?_
  refine rwf_mono (q2 F2 σ H2 x y h2 (r1.mono s2) r2) fun v H3 ⟨F3, d3, μ3, s3, h3, r3, k, e3, q3⟩ => ?_
  subst e3
  rw [Dp] at r3
  refine ⟨k, r3, ?_⟩
  cases k with
  | true =>
    rw [if_pos rfl] at q3 ⊢
    refine we_mono (q3 F3 σ H3 h3) fun z H4 ⟨F4, d4, μ4, s4, h4, r4, q4⟩ => ?_
    exact rwf_mono (q4 F4 σ H4 y z h4 ((r2.mono s3).mono s4) r4) fun v H' z => PostE.up (((s1.trans s2).trans s3).trans s4) z
  | false =>
    rw [if_neg Bool.false_ne_true] at q3 ⊢
    exact PostE.up ((s1.trans s2).trans s3) (PostE.here (d := .bl false) h3 (by rw [Dp]) q3)
def ruf (X : Cx) (f : Value → Sem Value) : V → Hp → VK → Prop := fun x H Q => ∀ (pins : List (Addr × Obj)) (s : Shared) (σ : L2.St) (v : Value), Inv X pins σ H s → RelV x v → wpAny (model X.prog X.w) X.A (f v) (EP X pins σ Q) X.xe s
theorem ruf_ok {X : Cx} {f : Value → Sem Value} : UnR X f (ruf X f) := fun pins s σ H x v Q I rx h => h pins s σ v I rx
theorem ruf_mono {X : Cx} {f : Value → Sem Value} {x : V} {H : Hp} {Q Q' : VK} (h : ruf X f x H Q) (k : ∀ v H', Q v H' → Q' v H') : ruf X f x H Q' := fun pins s σ v I rx => thn (h pins s σ v I rx) fun _ _ e => EP_mono e k
def und (Γ : Ct) (f : Value → Sem Value) (x : D) (δ : Dl) (μ : Mu) (Q : D → Mu → Prop) : Prop := ∀ F σ H vx, At Γ F δ μ σ H → Dp Γ.X.K F x vx → ruf Γ.X f vx H (PostE Γ F δ σ Q)
theorem ed_un {op : UnaryOp} (h : ed Γ a δ μ fun x μ1 => und Γ (unaryOp op) x δ μ1 Q) : ed Γ (.UnaryOp op a pos) δ μ Q := fun F σ H at_ => we_of (pe_un ruf_ok pe_we) (we_mono (h F σ H at_) fun x H1 ⟨F1, d1, μ1, s1, h1, r1, q1⟩ => ruf_mono (q1 F1 σ H1 x h1 r1) fun v H' z => PostE.up s1 z)
/-- a known value called with values -/
def rcf (X : Cx) (f : Value) : List V → Hp → VK → Prop := fun xs H Q => ∀ (pins : List (Addr × Obj)) (s : Shared) (σ : L2.St) (us : List Value), Inv X pins σ H s → Vals xs us → wpAny (model X.prog X.w) X.A (call f us) (EP X pins σ Q) X.xe s
theorem rcf_ok {X : Cx} {f : Value} : CallR X f (rcf X f) := fun pins s σ H x v Q I rx h => h pins s σ v I rx
theorem rcf_mono {X : Cx} {f : Value} {x : List V} {H : Hp} {Q Q' : VK} (h : rcf X f x H Q) (k : ∀ v H', Q v H' → Q' v H') : rcf X f x H Q' := fun pins s σ v I rx => thn (h pins s σ v I rx) fun _ _ e => EP_mono e k
def cld (Γ : Ct) (f : Value) (xs : List D) (δ : Dl) (μ : Mu) (Q : D → Mu → Prop) : Prop := ∀ F σ H vs, At Γ F δ μ σ H → Dps Γ.X.K F xs vs → rcf Γ.X f vs H (PostE Γ F δ σ Q)
theorem ed_callB {x : Str} {id : String} {es : List Expr} {p : Pos} (hm : Γ.X.mg x = none) (hv : bootBuiltins x = some (.builtin id)) (h : ea Γ (e :: es) δ μ fun xs μ1 => cld Γ (.builtin id) xs δ μ1 Q) (hg : Gl Γ.X x := by rfl)
    (hn : x ≠ "__name__" := by decide +kernel) (hdb : (x == ("__debug__" : Str)) = false := by decide +kernel)
    (he : starEach (e :: es) Γ.X.env = (false, eval e Γ.X.env) :: starEach es Γ.X.env := by rfl) (hpl : (backTo pos (starEach es Γ.X.env)).any (·.1) = false := by rfl) : ed Γ (.Call (.Name x p) (e :: es) [] pos) δ μ Q := fun F σ H at_ =>
  we_of (pe_callB rcf_ok hg hm hv pa_wa hn hdb he hpl) (wa_mono (h F σ H at_) fun vs H1 ⟨F1, d1, μ1, s1, h1, r1, q1⟩ => rcf_mono (q1 F1 σ H1 vs h1 r1) fun v H' z => PostE.up s1 z)
theorem ed_callTy {x : Str} {T : String} {es : List Expr} {p : Pos} (hm : Γ.X.mg x = none) (hv : bootBuiltins x = some (.type T)) (h : ea Γ (e :: es) δ μ fun xs μ1 => cld Γ (.type T) xs δ μ1 Q) (hg : Gl Γ.X x := by rfl)
    (hn : x ≠ "__name__" := by decide +kernel) (hdb : (x == ("__debug__" : Str)) = false := by decide +kernel)
    (he : starEach (e :: es) Γ.X.env = (false, eval e Γ.X.env) :: starEach es Γ.X.env := by rfl) (hpl : (backTo pos (starEach es Γ.X.env)).any (·.1) = false := by rfl) : ed Γ (.Call (.Name x p) (e :: es) [] pos) δ μ Q := fun F σ H at_ =>
  we_of (pe_callTy rcf_ok hg hm hv pa_wa hn hdb he hpl) (wa_mono (h F σ H at_) fun vs H1 ⟨F1, d1, μ1, s1, h1, r1, q1⟩ => rcf_mono (q1 F1 σ H1 vs h1 r1) fun v H' z => PostE.up s1 z)
/-- a[b] -/
def rxf (X : Cx) : R2 := fun x y H Q => ∀ (value slice : Expr) (pins : List (Addr × Obj)) (s : Shared) (σ : L2.St) (v u : Value), Inv X pins σ H s → RelV x v → RelV y u →
    subscripted slice false v u = operate [v, u] (getItem v u) → wpAny (model X.prog X.w) X.A (subscriptTail value slice v u) (EP X pins σ Q) X.xe s
theorem rxf_ok {X : Cx} : IxR X (rxf X) := fun value slice pins s σ H x y v u Q I rx ry h hs => h value slice pins s σ v u I rx ry hs
theorem rxf_mono {X : Cx} {x y : V} {H : Hp} {Q Q' : VK} (h : rxf X x y H Q) (k : ∀ v H', Q v H' → Q' v H') : rxf X x y H Q' := fun va sl pins s σ v u I rx ry hs => thn (h va sl pins s σ v u I rx ry hs) fun _ _ e => EP_mono e k
def ixd (Γ : Ct) (x y : D) (δ : Dl) (μ : Mu) (Q : D → Mu → Prop) : Prop := ∀ F σ H vx vy, At Γ F δ μ σ H → Dp Γ.X.K F x vx → Dp Γ.X.K F y vy → rxf Γ.X vx vy H (PostE Γ F δ σ Q)
theorem ed_ix (h : ed Γ a δ μ fun x μ1 => ed Γ b δ μ1 fun y μ2 => ixd Γ x y δ μ2 Q) (hs : PlainIx b := by exact fun _ _ => rfl) : ed Γ (.Subscript a b pos) δ μ Q := fun F σ H at_ => we_of (pe_ix rxf_ok pe_we pe_we hs) (by
  refine we_mono (h F σ H at_) fun x H1 ⟨F1, d1, μ1, s1, h1, r1, q1⟩ => ?_
  refine we_mono (q1 F1 σ H1 h1) fun y H2 ⟨F2, d2, μ2, s2, h2, r2, q2⟩ => ?_
  exact rxf_mono (q2 F2 σ H2 x y h2 (r1.mono s2) r2) fun v H' z => PostE.up (s1.trans s2) z)
def eo (Γ : Ct) (e : Option Expr) (δ : Dl) (μ : Mu) (Q : Option Int → Mu → Prop) : Prop := match e with
  | none => Q none μ
  | some e => ed Γ e δ μ fun d μ' => ∃ i, d = .int i ∧ Q (some i) μ'
def sld (Γ : Ct) (r : V → Option Int → Option Int → Hp → VK → Prop) (x : D) (lo hi : Option Int) (δ : Dl) (μ : Mu) (Q : D → Mu → Prop) : Prop := ∀ F σ H vx, At Γ F δ μ σ H → Dp Γ.X.K F x vx → r vx lo hi H (PostE Γ F δ σ Q)
def tOptE (X : Cx) : Option Expr → TO
  | none => tNoPart
  | some e => tPart (we X e)
theorem po_opt {X : Cx} : ∀ e : Option Expr, PO X e (tOptE X e)
  | none => po_none
  | some _ => po_some pe_we
theorem eo_run {o : Option Expr} {Q : Option Int → Mu → Prop} (h : eo Γ o δ μ Q) (F σ H) (at_ : At Γ F δ μ σ H) {R : Option Int → Hp → Prop} (k : ∀ i F' H' μ', Same F F' → At Γ F' δ μ' σ H' → Q i μ' → R i H') : tOptE Γ.X o σ H R := by
  cases o with
  | none => exact k _ F H μ (Same.refl F) at_ h
  | some e =>
    refine we_mono (h F σ H at_) fun x H1 ⟨F1, d1, μ1, s1, h1, r1, i, e1, q1⟩ => ?_
    subst e1
    rw [Dp] at r1
    exact ⟨i, r1, k _ F1 H1 μ1 s1 h1 q1⟩
theorem ed_slice {lo hi : Option Expr} {p2 : Pos} {r : V → Option Int → Option Int → Hp → VK → Prop} (hr : SlR Γ.X r) (hmono : ∀ x l u H Q Q', (∀ v H', Q v H' → Q' v H') → r x l u H Q → r x l u H Q')
    (h : ed Γ a δ μ fun x μ1 => eo Γ lo δ μ1 fun l μ2 => eo Γ hi δ μ2 fun u μ3 => sld Γ r x l u δ μ3 Q) : ed Γ (.Subscript a (.Slice lo hi none p2) pos) δ μ Q := fun F σ H at_ => by
  refine we_of (pe_slice hr pe_we (po_opt lo) (po_opt hi)) (we_mono (h F σ H at_) fun x H1 ⟨F1, d1, μ1, s1, h1, r1, q1⟩ => ?_)
  refine eo_run q1 F1 σ H1 h1 fun l F2 H2 μ2 s2 h2 q2 => ?_
  refine eo_run q2 F2 σ H2 h2 fun u F3 H3 μ3 s3 h3 q3 => ?_
  exact hmono _ _ _ _ _ _ (fun v H' z => PostE.up ((s1.trans s2).trans s3) z) (q3 F3 σ H3 x h3 ((r1.mono s2).mono s3))
/-- o.m(..) of a built-in type -/
def rmf (X : Cx) (id : String) : V → List V → Hp → VK → Prop := fun x xs H Q => ∀ (pins : List (Addr × Obj)) (s : Shared) (σ : L2.St) (v : Value) (us : List Value), Inv X pins σ H s → RelV x v → Vals xs us → wpAny (model X.prog X.w) X.A (call (.builtin id) (v :: us)) (EP X pins σ Q) X.xe s
theorem rmf_ok {X : Cx} {id : String} : MtR X id (rmf X id) := fun pins s σ H x xs v us Q I rx rs h => h pins s σ v us I rx rs
theorem rmf_mono {X : Cx} {id : String} {x : V} {xs : List V} {H : Hp} {Q Q' : VK} (h : rmf X id x xs H Q) (k : ∀ v H', Q v H' → Q' v H') : rmf X id x xs H Q' := fun pins s σ v us I rx rs => thn (h pins s σ v us I rx rs) fun _ _ e => EP_mono e k
/-- the receiver's type, over data -/
def tyD (T : String) (x : D) (μ : Mu) : Prop := match x with
  | .str _ => T = "str"
  | .lst _ => T = "list"
  | .dK _ _ => T = "dict"
  | .ref p => (∃ ds, (p, Cell.lst ds) ∈ μ ∧ T = "list") ∨ (∃ ks ds, (p, Cell.dK ks ds) ∈ μ ∧ T = "dict") ∨ (∃ ks ds, (p, Cell.dT ks ds) ∈ μ ∧ T = "dict") ∨ (∃ S n, (p, Cell.set S n) ∈ μ ∧ T = "set")
  | _ => False
def mtd (Γ : Ct) (id : String) (x : D) (xs : List D) (δ : Dl) (μ : Mu) (Q : D → Mu → Prop) : Prop := ∀ F σ H vx vs, At Γ F δ μ σ H → Dp Γ.X.K F x vx → Dps Γ.X.K F xs vs → rmf Γ.X id vx vs H (PostE Γ F δ σ Q)
/-- a bool as a test -/
theorem et_val {Q : Bool → Mu → Prop} (h : ed Γ e δ μ fun d μ' => ∃ c, d = .bl c ∧ Q c μ') (he : ∀ whole, isTrue e Γ.X.env whole = (do let v ← whole; standAt e.pos; holding [v] (truthy v)) := by intro _; rfl) : et Γ e δ μ Q := fun F σ H at_ => by
  refine wt_of (pt_val pe_we he) (we_mono (h F σ H at_) fun v H' ⟨F', d, μ', s, a', rr, c, e1, q⟩ => ?_)
  subst e1
  rw [Dp] at rr
  exact ⟨c, rr, F', μ', s, a', q⟩
theorem et_not {Q : Bool → Mu → Prop} (h : et Γ e δ μ fun c μ' => Q (!c) μ') : et Γ (.UnaryOp .Not e pos) δ μ Q := fun F σ H at_ => wt_of (pt_not pt_wt) (wt_mono (h F σ H at_) fun c H' ⟨F', μ', s, a', q⟩ => ⟨F', μ', s, a', q⟩)
theorem ew_and1 {Q : Bool → Mu → Prop} (h : et Γ e δ μ Q) : ew Γ (.BoolOp .And [e] pos) δ μ Q := fun F σ H at_ => ww_of (pw_and1 pt_wt) (h F σ H at_)
theorem ew_or1 {Q : Bool → Mu → Prop} (h : et Γ e δ μ Q) : ew Γ (.BoolOp .Or [e] pos) δ μ Q := fun F σ H at_ => ww_of (pw_or1 pt_wt) (h F σ H at_)
theorem ew_and {rest : List Expr} {Q : Bool → Mu → Prop} (h : et Γ a δ μ fun c μ' => if c = true then ew Γ (.BoolOp .And (b :: rest) pos) δ μ' Q else Q false μ') : ew Γ (.BoolOp .And (a :: b :: rest) pos) δ μ Q := fun F σ H at_ => by
  refine ww_of (pw_and pt_wt pw_ww) (wt_mono (h F σ H at_) fun c H' ⟨F', μ', s, a', q⟩ => ?_)
  cases c with
  | true =>
    rw [if_pos rfl] at q ⊢
    exact ww_mono (q F' σ H' a') fun c H2 z => z.up s
  | false =>
    rw [if_neg Bool.false_ne_true] at q ⊢
    exact ⟨F', μ', s, a', q⟩
theorem ew_or {rest : List Expr} {Q : Bool → Mu → Prop} (h : et Γ a δ μ fun c μ' => if c = true then Q true μ' else ew Γ (.BoolOp .Or (b :: rest) pos) δ μ' Q) : ew Γ (.BoolOp .Or (a :: b :: rest) pos) δ μ Q := fun F σ H at_ => by
  refine ww_of (pw_or pt_wt pw_ww) (wt_mono (h F σ H at_) fun c H' ⟨F', μ', s, a', q⟩ => ?_)
  cases c with
  | true =>
    rw [if_pos rfl] at q ⊢
    exact ⟨F', μ', s, a', q⟩
  | false =>
    rw [if_neg Bool.false_ne_true] at q ⊢
    exact ww_mono (q F' σ H' a') fun c H2 z => z.up s
theorem et_ew {Q : Bool → Mu → Prop} (h : ew Γ e δ μ Q) : et Γ e δ μ Q := fun F σ H at_ => wt_of pw_ww.pt (h F σ H at_)
/-- and, or, not as values of bools -/
theorem ed_one {op} (h : ed Γ a δ μ Q) : ed Γ (.BoolOp op [a] pos) δ μ Q := fun F σ H at_ => we_of (pe_one pe_we) (h F σ H at_)
theorem ed_and {rest : List Expr} (h : ed Γ a δ μ fun d μ' => ∃ c, d = .bl c ∧ if c = true then ed Γ (.BoolOp .And (b :: rest) pos) δ μ' Q else Q (.bl false) μ') : ed Γ (.BoolOp .And (a :: b :: rest) pos) δ μ Q := fun F σ H at_ => by
  refine we_of (pe_and pe_we pe_we) (we_mono (h F σ H at_) fun v H' ⟨F', d, μ', s, a', rr, c, e1, q⟩ => ?_)
  subst e1
  rw [Dp] at rr
  refine ⟨c, rr, ?_⟩
  cases c with
  | true =>
    rw [if_pos rfl] at q ⊢
    exact we_mono (q F' σ H' a') fun c H2 z => z.up s
  | false =>
    rw [if_neg Bool.false_ne_true] at q ⊢
    exact ⟨F', _, μ', s, a', by rw [Dp], q⟩
theorem ed_or {rest : List Expr} (h : ed Γ a δ μ fun d μ' => ∃ c, d = .bl c ∧ if c = true then Q (.bl true) μ' else ed Γ (.BoolOp .Or (b :: rest) pos) δ μ' Q) : ed Γ (.BoolOp .Or (a :: b :: rest) pos) δ μ Q := fun F σ H at_ => by
  refine we_of (pe_or pe_we pe_we) (we_mono (h F σ H at_) fun v H' ⟨F', d, μ', s, a', rr, c, e1, q⟩ => ?_)
  subst e1
  rw [Dp] at rr
  refine ⟨c, rr, ?_⟩
  cases c with
  | true =>
    rw [if_pos rfl] at q ⊢
    exact ⟨F', _, μ', s, a', by rw [Dp], q⟩
  | false =>
    rw [if_neg Bool.false_ne_true] at q ⊢
    exact we_mono (q F' σ H' a') fun c H2 z => z.up s
theorem ed_not (h : ed Γ a δ μ fun d μ' => ∃ c, d = .bl c ∧ Q (.bl (!c)) μ') : ed Γ (.UnaryOp .Not a pos) δ μ Q := fun F σ H at_ => by
  refine we_of (pe_not pe_we) (we_mono (h F σ H at_) fun v H' ⟨F', d, μ', s, a', rr, c, e1, q⟩ => ?_)
  subst e1
  rw [Dp] at rr
  exact ⟨c, rr, F', _, μ', s, a', by rw [Dp], q⟩
theorem ed_if {c : Expr} (h : et Γ c δ μ fun k μ' => if k = true then ed Γ a δ μ' Q else ed Γ b δ μ' Q) : ed Γ (.IfExp c a b pos) δ μ Q := fun F σ H at_ => by
  refine we_of (pe_ifExp pt_wt pe_we pe_we) (wt_mono (h F σ H at_) fun k H' ⟨F', μ', s, a', q⟩ => ?_)
  cases k with
  | true =>
    rw [if_pos rfl] at q ⊢
    exact we_mono (q F' σ H' a') fun c H2 z => z.up s
  | false =>
    rw [if_neg Bool.false_ne_true] at q ⊢
    exact we_mono (q F' σ H' a') fun c H2 z => z.up s
/-! ### arguments, displays -/
theorem ea_nil {Q : List D → Mu → Prop} (q : Q [] μ) : ea Γ [] δ μ Q := fun F σ H at_ => wa_of pa_nil ⟨F, [], μ, Same.refl F, at_, Dps.nil, q⟩
theorem ea_cons {es : List Expr} {Q : List D → Mu → Prop} (h : ed Γ e δ μ fun d μ1 => ea Γ es δ μ1 fun ds μ2 => Q (d :: ds) μ2) (hs : starEach (e :: es) Γ.X.env = (false, eval e Γ.X.env) :: starEach es Γ.X.env := by rfl) : ea Γ (e :: es) δ μ Q := fun F σ H at_ => by
  refine wa_of (pa_cons pe_we pa_wa hs) (we_mono (h F σ H at_) fun v H1 ⟨F1, d, μ1, s1, a1, r1, q1⟩ => ?_)
  refine wa_mono (q1 F1 σ H1 a1) fun vs H2 ⟨F2, ds, μ2, s2, a2, r2, q2⟩ => ?_
  exact ⟨F2, d :: ds, μ2, s1.trans s2, a2, Dps.cons (r1.mono s2) r2, q2⟩
theorem ed_tup {es : List Expr} {k} (h : ea Γ es δ μ fun ds μ' => ds.length ≤ 1000 ∧ Q (.tup ds) μ') : ed Γ (.Tuple es k pos) δ μ Q := fun F σ H at_ => by
  refine we_of (pe_tup pa_wa) (wa_mono (h F σ H at_) fun vs H1 ⟨F1, ds, μ1, s1, a1, r1, l, q1⟩ => ⟨?_, fun p hp => ?_⟩)
  · rw [← r1.length]; exact Nat.le_of_lt (small1000 l)
  · refine PostE.up s1 (PostE.new a1 hp ?_ q1)
    rw [Dp]
    exact ⟨p, vs, rfl, .inl (.inl upd_same), r1.mono (same_upd (a1.sx.sub.free hp))⟩
theorem ed_lst {es : List Expr} (h : ea Γ es δ μ fun ds μ' => ds.length ≤ 1000 ∧ Q (.lst ds) μ') : ed Γ (.List es pos) δ μ Q := fun F σ H at_ => by
  refine we_of (pe_lst pa_wa) (wa_mono (h F σ H at_) fun vs H1 ⟨F1, ds, μ1, s1, a1, r1, l, q1⟩ => ⟨?_, fun p hp => ?_⟩)
  · rw [← r1.length]; exact Nat.le_of_lt (small1000 l)
  · refine PostE.up s1 (PostE.new a1 hp ?_ q1)
    rw [Dp]
    exact ⟨p, vs, rfl, upd_same, r1.mono (same_upd (a1.sx.sub.free hp))⟩
/-- an owned list -/
theorem ed_lstO {es : List Expr} (h : ea Γ es δ μ fun ds μ' => ds.length ≤ 1000 ∧ ∀ p, Q (.ref p) ((p, .lst ds) :: μ')) : ed Γ (.List es pos) δ μ Q := fun F σ H at_ => by
  refine we_of (pe_lst pa_wa) (wa_mono (h F σ H at_) fun vs H1 ⟨F1, ds, μ1, s1, a1, r1, l, q1⟩ => ⟨?_, fun p hp => ?_⟩)
  · rw [← r1.length]; exact Nat.le_of_lt (small1000 l)
  · exact PostE.up s1 (PostE.own (c := .lst ds) a1 hp ⟨vs, upd_same, r1⟩ (q1 p))
end
/-! ### statements -/
section
variable {Γ : Ct} {δ : Dl} {μ : Mu} {E : En} {pos : Pos} {e : Expr} {st : Stmt} {rest : List Stmt}
theorem sds_nil (q : E.nx δ μ) : sds Γ [] δ μ E := fun F σ H a => wss_of pss_nil ⟨F, δ, μ, Same.refl F, a, q⟩
theorem sds_cons (h : sd Γ st δ μ { E with nx := fun δ' μ' => sds Γ rest δ' μ' E }) : sds Γ (st :: rest) δ μ E := fun F σ H a => by
  refine wss_of (pss_cons ps_ws pss_wss) (ws_mono (h F σ H a) ⟨fun σ' H' z => ?_, fun _ _ z => z, fun _ _ z => z, fun _ _ z => z⟩)
  obtain ⟨F', δ', μ', s, a', q⟩ := z
  exact wss_mono (q F' σ' H' a') (En.up s)
theorem sd_pass (q : E.nx δ μ) : sd Γ (.Pass pos) δ μ E := fun F σ H a => ws_of ps_pass ⟨F, δ, μ, Same.refl F, a, q⟩
theorem sd_doc {x j pos'} (q : E.nx δ μ) : sd Γ (.Expr (.Constant (.str x) j pos) pos') δ μ E := fun F σ H a => ws_of ps_doc ⟨F, δ, μ, Same.refl F, a, q⟩
theorem sd_expr (h : ed Γ e δ μ fun _ μ' => E.nx δ μ') (hs : swapsWith e none pos.line Γ.X.env = pure false := by rfl) : sd Γ (.Expr e pos) δ μ E := fun F σ H a =>
  ws_of (ps_expr pe_we hs) (we_mono (h F σ H a) fun v H' ⟨F', d, μ', s, a', r, q⟩ => ⟨F', δ, μ', s, a', q⟩)
theorem sd_ret (h : ed Γ e δ μ E.rt) : sd Γ (.Return (some e) pos) δ μ E := fun F σ H a =>
  ws_of (ps_ret pe_we) (we_mono (h F σ H a) fun v H' ⟨F', d, μ', s, a', r, q⟩ => ⟨F', d, μ', s, a'.st, a'.sx, r, q⟩)
theorem sd_retN (q : E.rt .non μ) : sd Γ (.Return none pos) δ μ E := fun F σ H a => ws_of ps_retN ⟨F, .non, μ, Same.refl F, a.st, a.sx, by rw [Dp], q⟩
theorem sd_if {c : Expr} {t f : List Stmt} (h : et Γ c δ μ fun k μ' => if k = true then sds Γ t δ μ' E else sds Γ f δ μ' E) : sd Γ (.If c t f pos) δ μ E := fun F σ H a => by
  refine ws_of (ps_if pt_wt pss_wss pss_wss) (wt_mono (h F σ H a) fun k H' ⟨F', μ', s, a', q⟩ => ?_)
  cases k with
  | true =>
    rw [if_pos rfl] at q ⊢
    exact wss_mono (q F' σ H' a') (En.up s)
  | false =>
    rw [if_neg Bool.false_ne_true] at q ⊢
    exact wss_mono (q F' σ H' a') (En.up s)
theorem gd_name {i : Nat} {x : Str} {d : D} {Q : Dl → Mu → Prop} (hN : Γ.X.N.Nodup) (hi : Γ.X.N[i]? = some x) (q : Q (δ.set i (some d)) μ) (hx : Loc Γ.X.env.scope x := by first | exact .inl rfl | exact .inr rfl)
    (hf : Γ.X.fn x = true ∨ Γ.X.env.scope.names.lookup x = some .local := by first | exact .inl rfl | exact .inr rfl | assumption) : gd Γ (.Name x pos) d δ μ Q := fun F σ H v a r =>
  wg_of (pg_name hN hi hx hf) ⟨F, _, μ, Same.refl F, a.fr_set i r, q⟩
theorem gds_nil {Q : Dl → Mu → Prop} (q : Q δ μ) : gds Γ [] [] δ μ Q := fun F σ H vs a r => wgs_of pgs_nil ⟨r.unnil, F, δ, μ, Same.refl F, a, q⟩
theorem gds_cons {es : List Expr} {d : D} {ds : List D} {Q : Dl → Mu → Prop} (h : gd Γ e d δ μ fun δ' μ' => gds Γ es ds δ' μ' Q) (hs : (assignEach (e :: es) Γ.X.env).map (·.2) = assign e Γ.X.env :: (assignEach es Γ.X.env).map (·.2) := by rfl) :
    gds Γ (e :: es) (d :: ds) δ μ Q := fun F σ H vs a r => by
  obtain ⟨v, ws', rfl, r1, r2⟩ := r.uncons
  refine wgs_of (pgs_cons pg_wg pgs_wgs hs) ⟨v, ws', rfl, wg_mono (h F σ H v a r1) fun σ1 H1 ⟨F1, δ1, μ1, s1, a1, q1⟩ => ?_⟩
  exact wgs_mono (q1 F1 σ1 H1 ws' a1 (r2.mono s1)) fun σ2 H2 z => z.up s1
theorem gd_tup {es : List Expr} {k : Nat} {ds : List D} {n : Nat} {Q : Dl → Mu → Prop} (hc : Γ.X.calm = true) (h : ds.length = n ∧ gds Γ es ds δ μ Q) (hn : (assignEach es Γ.X.env).length = n := by rfl) (hst : (assignEach es Γ.X.env).findIdx? (·.1) = none := by rfl) :
    gd Γ (.Tuple es k pos) (.tup ds) δ μ Q := fun F σ H v a r => by
  rw [Dp] at r
  obtain ⟨p, vs, rfl, hq, r⟩ := r
  exact wg_of (pg_tup hc pgs_wgs hn hst) ⟨p, vs, rfl, Same.sqT a.sx.sub hq, by rw [← r.length]; exact h.1, h.2 F σ H vs a r⟩
theorem sd_asg {tg : Expr} (h : ed Γ e δ μ fun d μ' => gd Γ tg d δ μ' E.nx) (hs : swapsWithSole [tg] e pos.line Γ.X.env = pure false := by rfl) (hw : swappedStores [tg] e Γ.X.env = pure none := by rfl)
    (h1 : (assignEach [tg] Γ.X.env).map (·.2) = [assign tg Γ.X.env] := by rfl) : sd Γ (.Assign [tg] e pos) δ μ E := fun F σ H a =>
  ws_of (ps_asg pe_we pg_wg hs hw h1) (we_mono (h F σ H a) fun v H' ⟨F', d, μ', s, a', r, q⟩ => wg_mono (q F' σ H' v a' r) fun σ2 H2 z => z.up s)
theorem sd_set {i : Nat} {x : Str} {pos' : Pos} (hN : Γ.X.N.Nodup) (hi : Γ.X.N[i]? = some x) (h : ed Γ e δ μ fun d μ' => E.nx (δ.set i (some d)) μ') (hs : swapsWith e (some (.Name x pos')) pos.line Γ.X.env = pure false := by rfl)
    (hx : Loc Γ.X.env.scope x := by first | exact .inl rfl | exact .inr rfl) (hf : Γ.X.fn x = true ∨ Γ.X.env.scope.names.lookup x = some .local := by first | exact .inl rfl | exact .inr rfl | assumption) : sd Γ (.Assign [.Name x pos'] e pos) δ μ E := fun F σ H a =>
  ws_of (ps_set hN hi hx pe_we hs hf) (we_mono (h F σ H a) fun v H' ⟨F', d, μ', s, a', r, q⟩ => ⟨F', _, μ', s, a'.fr_set i r, q⟩)
end
end PD
/-! PD3: operators, built-ins, methods over data. -/
namespace PD
open PySem PySem.Spec PyProof.Rows L2
section
variable {Γ : Ct} {δ : Dl} {μ : Mu} {Q : D → Mu → Prop} {x y : D}
theorem opd_of {f : Value → Value → Sem Value} {r : R2} (ho : OpR Γ.X f r) (h : ∀ F σ H vx vy, At Γ F δ μ σ H → Dp Γ.X.K F x vx → Dp Γ.X.K F y vy → r vx vy H (PostE Γ F δ σ Q)) : opd Γ f x y δ μ Q :=
  fun F σ H vx vy a r1 r2 pins s σ' v u I q1 q2 => ho pins s σ' H vx vy v u _ I q1 q2 (h F σ H vx vy a r1 r2)
theorem cld_of {f : Value} {xs : List D} {r : List V → Hp → VK → Prop} (ho : CallR Γ.X f r) (h : ∀ F σ H vs, At Γ F δ μ σ H → Dps Γ.X.K F xs vs → r vs H (PostE Γ F δ σ Q)) : cld Γ f xs δ μ Q :=
  fun F σ H vs a r1 pins s σ' us I q1 => ho pins s σ' H vs us _ I q1 (h F σ H vs a r1)
theorem und_of {f : Value → Sem Value} {r : V → Hp → VK → Prop} (ho : UnR Γ.X f r) (h : ∀ F σ H vx, At Γ F δ μ σ H → Dp Γ.X.K F x vx → r vx H (PostE Γ F δ σ Q)) : und Γ f x δ μ Q :=
  fun F σ H vx a r1 pins s σ' v I q1 => ho pins s σ' H vx v _ I q1 (h F σ H vx a r1)
theorem ixd_of {r : R2} (ho : IxR Γ.X r) (h : ∀ F σ H vx vy, At Γ F δ μ σ H → Dp Γ.X.K F x vx → Dp Γ.X.K F y vy → r vx vy H (PostE Γ F δ σ Q)) : ixd Γ x y δ μ Q :=
  fun F σ H vx vy a r1 r2 va sl pins s σ' v u I q1 q2 hs => ho va sl pins s σ' H vx vy v u _ I q1 q2 (h F σ H vx vy a r1 r2) hs
theorem mtd_of {id : String} {xs : List D} {r : V → List V → Hp → VK → Prop} (ho : MtR Γ.X id r) (h : ∀ F σ H vx vs, At Γ F δ μ σ H → Dp Γ.X.K F x vx → Dps Γ.X.K F xs vs → r vx vs H (PostE Γ F δ σ Q)) : mtd Γ id x xs δ μ Q :=
  fun F σ H vx vs a r1 r2 pins s σ' v us I q1 q2 => ho pins s σ' H vx vs v us _ I q1 q2 (h F σ H vx vs a r1 r2)
theorem dpI {K : PySem.W.Frag} {F : Hp} {i : Int} {v : V} (h : Dp K F (.int i) v) : v = .int i := by rw [Dp] at h; exact h
theorem dpB {K : PySem.W.Frag} {F : Hp} {i : Bool} {v : V} (h : Dp K F (.bl i) v) : v = .bl i := by rw [Dp] at h; exact h
theorem dpS {K : PySem.W.Frag} {F : Hp} {i : Str} {v : V} (h : Dp K F (.str i) v) : v = .str i := by rw [Dp] at h; exact h
theorem dpN {K : PySem.W.Frag} {F : Hp} {v : V} (h : Dp K F .non v) : v = .non := by rw [Dp] at h; exact h
theorem dpR {K : PySem.W.Frag} {F : Hp} {i : Addr} {v : V} (h : Dp K F (.ref i) v) : v = .ref i := by rw [Dp] at h; exact h
theorem dpL {K : PySem.W.Frag} {F : Hp} {ds : List D} {v : V} (h : Dp K F (.lst ds) v) : ∃ a vs, v = .ref a ∧ F a = some (.lst vs) ∧ Dps K F ds vs := by rw [Dp] at h; exact h
theorem dpRl {K : PySem.W.Frag} {F : Hp} {ds : List D} {v : V} (h : Dp K F (.rl ds) v) : ∃ a vs, v = .ref a ∧ SqL K F a vs ∧ Dps K F ds vs := by rw [Dp] at h; exact h
theorem dpT {K : PySem.W.Frag} {F : Hp} {ds : List D} {v : V} (h : Dp K F (.tup ds) v) : ∃ a vs, v = .ref a ∧ SqT K F a vs ∧ Dps K F ds vs := by rw [Dp] at h; exact h
theorem dpi {K : PySem.W.Frag} {F : Hp} {i : Int} : Dp K F (.int i) (.int i) := by rw [Dp]
theorem dpb {K : PySem.W.Frag} {F : Hp} {i : Bool} : Dp K F (.bl i) (.bl i) := by rw [Dp]
theorem dps {K : PySem.W.Frag} {F : Hp} {i : Str} : Dp K F (.str i) (.str i) := by rw [Dp]
theorem dpn {K : PySem.W.Frag} {F : Hp} : Dp K F .non .non := by rw [Dp]
theorem dpr {K : PySem.W.Frag} {F : Hp} {a : Addr} : Dp K F (.ref a) (.ref a) := by rw [Dp]
theorem dpl {K : PySem.W.Frag} {F : Hp} {a : Addr} {ds : List D} {vs : List V} (h : F a = some (.lst vs)) (r : Dps K F ds vs) : Dp K F (.lst ds) (.ref a) := by rw [Dp]; exact ⟨a, vs, rfl, h, r⟩
theorem dpt {K : PySem.W.Frag} {F : Hp} {a : Addr} {ds : List D} {vs : List V} (h : SqT K F a vs) (r : Dps K F ds vs) : Dp K F (.tup ds) (.ref a) := by rw [Dp]; exact ⟨a, vs, rfl, h, r⟩
theorem Dps.one {K : PySem.W.Frag} {F : Hp} {d : D} {vs : List V} (h : Dps K F [d] vs) : ∃ v, vs = [v] ∧ Dp K F d v := by
  obtain ⟨v, ws, rfl, h1, h2⟩ := h.uncons
  rw [h2.unnil]; exact ⟨v, rfl, h1⟩
theorem Dps.two {K : PySem.W.Frag} {F : Hp} {d e : D} {vs : List V} (h : Dps K F [d, e] vs) : ∃ v w, vs = [v, w] ∧ Dp K F d v ∧ Dp K F e w := by
  obtain ⟨v, ws, rfl, h1, h2⟩ := h.uncons
  obtain ⟨w, rfl, h3⟩ := h2.one; exact ⟨v, w, rfl, h1, h3⟩
/-! ### ints -/
theorem opd_I0 {f : Value → Value → Sem Value} {g : Int → Int → Int} {i j : Int} (ho : OpR Γ.X f (rI0 fun i j => .int (g i j))) (q : Q (.int (g i j)) μ) : opd Γ f (.int i) (.int j) δ μ Q := opd_of ho fun F σ H vx vy a r1 r2 => by
  rw [dpI r1, dpI r2]; exact ⟨i, j, rfl, rfl, PostE.here a dpi q⟩
theorem opd_I {f : Value → Value → Sem Value} {C : Int → Int → Prop} {g : Int → Int → Int} {i j : Int} (ho : OpR Γ.X f (rI C fun i j => .int (g i j))) (c : C i j) (q : Q (.int (g i j)) μ) : opd Γ f (.int i) (.int j) δ μ Q := opd_of ho fun F σ H vx vy a r1 r2 => by
  rw [dpI r1, dpI r2]; exact ⟨i, j, rfl, rfl, c, PostE.here a dpi q⟩
theorem opd_IB {f : Value → Value → Sem Value} {g : Int → Int → Bool} {i j : Int} (ho : OpR Γ.X f (rI0 fun i j => .bl (g i j))) (q : Q (.bl (g i j)) μ) : opd Γ f (.int i) (.int j) δ μ Q := opd_of ho fun F σ H vx vy a r1 r2 => by
  rw [dpI r1, dpI r2]; exact ⟨i, j, rfl, rfl, PostE.here a dpb q⟩
theorem opd_add {i j : Int} (q : Q (.int (i + j)) μ) : opd Γ (binaryOp .Add) (.int i) (.int j) δ μ Q := opd_I0 (g := fun i j => i + j) op_add q
theorem opd_sub {i j : Int} (q : Q (.int (i - j)) μ) : opd Γ (binaryOp .Sub) (.int i) (.int j) δ μ Q := opd_I0 (g := fun i j => i - j) op_sub q
theorem opd_mul {i j : Int} (c : CMul i j) (q : Q (.int (i * j)) μ) : opd Γ (binaryOp .Mult) (.int i) (.int j) δ μ Q := opd_I (g := fun i j => i * j) op_mul c q
theorem opd_mod {i j : Int} (c : 0 < j) (q : Q (.int (i % j)) μ) : opd Γ (binaryOp .Mod) (.int i) (.int j) δ μ Q := opd_I (g := fun i j => i % j) op_mod c q
theorem opd_fdiv {i j : Int} (c : 0 < j ∧ j < 1073741824) (q : Q (.int (i / j)) μ) : opd Γ (binaryOp .FloorDiv) (.int i) (.int j) δ μ Q := opd_I (g := fun i j => i / j) op_fdiv c q
theorem opd_pow {i j : Int} (c : 0 ≤ j ∧ j ≤ 1000000 ∧ i.natAbs < 2 ^ 64) (q : Q (.int (i ^ j.toNat)) μ) : opd Γ (binaryOp .Pow) (.int i) (.int j) δ μ Q := opd_I (g := fun i j => i ^ j.toNat) op_pow c q
theorem opd_lt {i j : Int} (q : Q (.bl (decide (i < j))) μ) : opd Γ (compareOp .Lt) (.int i) (.int j) δ μ Q := opd_IB (g := fun i j => decide (i < j)) op_lt q
theorem opd_le {i j : Int} (q : Q (.bl (decide (i ≤ j))) μ) : opd Γ (compareOp .LtE) (.int i) (.int j) δ μ Q := opd_IB (g := fun i j => decide (i ≤ j)) op_le q
theorem opd_gt {i j : Int} (q : Q (.bl (decide (j < i))) μ) : opd Γ (compareOp .Gt) (.int i) (.int j) δ μ Q := opd_IB (g := fun i j => decide (j < i)) op_gt q
theorem opd_ge {i j : Int} (q : Q (.bl (decide (j ≤ i))) μ) : opd Γ (compareOp .GtE) (.int i) (.int j) δ μ Q := opd_IB (g := fun i j => decide (j ≤ i)) op_ge q
theorem und_neg {i : Int} (q : Q (.int (-i)) μ) : und Γ (unaryOp .USub) (.int i) δ μ Q := und_of un_neg fun F σ H vx a r1 => by
  rw [dpI r1]; exact ⟨i, rfl, PostE.here a dpi q⟩
/-! ### == of scalars -/
theorem opd_eqI {i j : Int} (q : Q (.bl (decide (i = j))) μ) : opd Γ (compareOp .Eq) (.int i) (.int j) δ μ Q := opd_of op_eq fun F σ H vx vy a r1 r2 => by
  rw [dpI r1, dpI r2]
  refine ⟨rfl, PostE.here a (d := .bl _) dpb ?_⟩
  rw [dec_int]
  have e : (i == j) = decide (i = j) := rfl
  rw [e]; exact q
theorem opd_neI {i j : Int} (q : Q (.bl (!decide (i = j))) μ) : opd Γ (compareOp .NotEq) (.int i) (.int j) δ μ Q := opd_of op_ne fun F σ H vx vy a r1 r2 => by
  rw [dpI r1, dpI r2]
  refine ⟨rfl, PostE.here a (d := .bl _) dpb ?_⟩
  rw [dec_int]
  have e : (i == j) = decide (i = j) := rfl
  rw [e]; exact q
theorem opd_eqS {i j : Str} (q : Q (.bl (decide (i = j))) μ) : opd Γ (compareOp .Eq) (.str i) (.str j) δ μ Q := opd_of op_eq fun F σ H vx vy a r1 r2 => by
  rw [dpS r1, dpS r2]
  refine ⟨rfl, PostE.here a (d := .bl _) dpb ?_⟩
  have e : decide (V.str i = V.str j) = decide (i = j) := by
    by_cases h : i = j
    · subst h; simp
    · rw [decide_eq_false h, decide_eq_false fun z => h (V.str.inj z)]
  rw [e]; exact q
theorem opd_neS {i j : Str} (q : Q (.bl (!decide (i = j))) μ) : opd Γ (compareOp .NotEq) (.str i) (.str j) δ μ Q := opd_of op_ne fun F σ H vx vy a r1 r2 => by
  rw [dpS r1, dpS r2]
  refine ⟨rfl, PostE.here a (d := .bl _) dpb ?_⟩
  have e : decide (V.str i = V.str j) = decide (i = j) := by
    by_cases h : i = j
    · subst h; simp
    · rw [decide_eq_false h, decide_eq_false fun z => h (V.str.inj z)]
  rw [e]; exact q
/-! ### == of data -/
mutual
def D.py : D → PyData
  | .non => .none
  | .bl b => .bool b
  | .int i => .int i
  | .str x => .str x
  | .lst ds => .list (D.pys ds)
  | .rl ds => .list (D.pys ds)
  | .tup ds => .tuple (D.pys ds)
  | .ty _ => .dict []
  | .ref _ => .dict []
  | .obj _ _ _ => .dict []
  | .dK _ _ => .dict []
  | .slc _ _ _ => .dict []
  | .exv _ _ _ => .dict []
def D.pys : List D → List PyData
  | [] => []
  | d :: ds => d.py :: D.pys ds
end
mutual
/-- what may be compared as data: texts in order -/
def D.ok : D → Bool
  | .non => true
  | .bl b => true
  | .int i => true
  | .str x => PyData.canLay0 (.str x)
  | .lst ds => D.oks ds
  | .rl ds => D.oks ds
  | .tup ds => D.oks ds
  | .ty _ => false
  | .ref _ => false
  | .obj _ _ _ => false
  | .dK _ _ => false
  | .slc _ _ _ => false
  | .exv _ _ _ => false
def D.oks : List D → Bool
  | [] => true
  | d :: ds => d.ok && D.oks ds
end
mutual
theorem D.ok_lay : ∀ {d : D}, d.ok = true → d.py.canLay0 = true
  | .non, _ => by rw [D.py, PyData.canLay0]
  | .bl _, _ => by rw [D.py, PyData.canLay0]
  | .int _, _ => by rw [D.py, PyData.canLay0]
  | .str _, h => by rw [D.ok] at h; rw [D.py]; exact h
  | .lst ds, h => by rw [D.ok] at h; rw [D.py, PyData.canLay0]; exact D.oks_lay h
  | .rl ds, h => by rw [D.ok] at h; rw [D.py, PyData.canLay0]; exact D.oks_lay h
  | .tup ds, h => by rw [D.ok] at h; rw [D.py, PyData.canLay0]; exact D.oks_lay h
  | .ty _, h => by rw [D.ok] at h; cases h
  | .ref _, h => by rw [D.ok] at h; cases h
  | .obj _ _ _, h => by rw [D.ok] at h; cases h
  | .dK _ _, h => by rw [D.ok] at h; cases h
  | .slc _ _ _, h => by rw [D.ok] at h; cases h
  | .exv _ _ _, h => by rw [D.ok] at h; cases h
theorem D.oks_lay : ∀ {ds : List D}, D.oks ds = true → PyData.canLayAll0 (D.pys ds) = true
  | [], _ => by rw [D.pys, PyData.canLayAll0]
  | d :: ds, h => by
    rw [D.oks] at h
    obtain ⟨h1, h2⟩ := Bool.and_eq_true_iff.mp h
    rw [D.pys, PyData.canLayAll0, D.ok_lay h1, D.oks_lay h2]; rfl
end
mutual
theorem D.ok_dp {K : PySem.W.Frag} {F H : Hp} (s : Same F H) : ∀ {d : D} {v : V}, d.ok = true → Dp K F d v → L2.Dp K H v d.py
  | .non, v, _, r => by rw [dpN r, D.py]; exact .non
  | .bl _, v, _, r => by rw [dpB r, D.py]; exact .bl _
  | .int _, v, _, r => by rw [dpI r, D.py]; exact .int _
  | .str _, v, h, r => by rw [dpS r, D.py]; exact .str _
  | .lst ds, v, h, r => by
    obtain ⟨a, vs, rfl, h1, h2⟩ := dpL r
    rw [D.ok] at h; rw [D.py]
    exact .lst (.inl (.inl (s _ _ h1))) (D.oks_dp s h h2)
  | .rl ds, v, h, r => by
    obtain ⟨a, vs, rfl, h1, h2⟩ := dpRl r
    rw [D.ok] at h; rw [D.py]
    exact .lst (s.seq h1) (D.oks_dp s h h2)
  | .tup ds, v, h, r => by
    obtain ⟨a, vs, rfl, h1, h2⟩ := dpT r
    rw [D.ok] at h; rw [D.py]
    exact .tup (Same.sqT s h1) (D.oks_dp s h h2)
  | .ty _, _, h, _ => by rw [D.ok] at h; cases h
  | .ref _, _, h, _ => by rw [D.ok] at h; cases h
  | .obj _ _ _, _, h, _ => by rw [D.ok] at h; cases h
  | .dK _ _, _, h, _ => by rw [D.ok] at h; cases h
  | .slc _ _ _, _, h, _ => by rw [D.ok] at h; cases h
  | .exv _ _ _, _, h, _ => by rw [D.ok] at h; cases h
theorem D.oks_dp {K : PySem.W.Frag} {F H : Hp} (s : Same F H) : ∀ {ds : List D} {vs : List V}, D.oks ds = true → Dps K F ds vs → L2.DpAll K H vs (D.pys ds)
  | [], vs, _, r => by rw [r.unnil, D.pys]; exact .nil
  | d :: ds, vs, h, r => by
    obtain ⟨v, ws, rfl, r1, r2⟩ := r.uncons
    rw [D.oks] at h
    obtain ⟨h1, h2⟩ := Bool.and_eq_true_iff.mp h
    rw [D.pys]
    exact .cons (D.ok_dp s h1 r1) (D.oks_dp s h2 r2)
end
def eqD (x y : D) : Bool := PyData.eqv x.py y.py
/-! ### is None -/
def D.isN : D → Bool
  | .non => true
  | _ => false
theorem dp_isN {K : PySem.W.Frag} {F : Hp} {d : D} {v : V} (r : Dp K F d v) : decide (v = .non) = d.isN := by
  cases d with
  | non => rw [dpN r]; rfl
  | bl _ => rw [dpB r]; rfl
  | int _ => rw [dpI r]; rfl
  | str _ => rw [dpS r]; rfl
  | ref _ => rw [dpR r]; rfl
  | ty n => rw [Dp] at r; rw [r]; rfl
  | lst _ => obtain ⟨a, vs, rfl, _⟩ := dpL r; rfl
  | rl _ => obtain ⟨a, vs, rfl, _⟩ := dpRl r; rfl
  | tup _ => obtain ⟨a, vs, rfl, _⟩ := dpT r; rfl
  | obj _ _ _ => rw [Dp] at r; obtain ⟨a, dx, gs, rfl, _⟩ := r; rfl
  | dK _ _ => rw [Dp] at r; obtain ⟨a, dx, rfl, _⟩ := r; rfl
  | slc _ _ _ => rw [Dp] at r; obtain ⟨a, rfl, _⟩ := r; rfl
  | exv _ _ _ => rw [Dp] at r; obtain ⟨a, o, gs, rfl, _⟩ := r; rfl
theorem opd_isN (q : Q (.bl x.isN) μ) : opd Γ (compareOp .Is) x .non δ μ Q := opd_of op_isN fun F σ H vx vy a r1 r2 => by
  rw [dpN r2]; refine ⟨rfl, PostE.here a (d := .bl _) dpb ?_⟩; rw [dp_isN r1]; exact q
theorem opd_notN (q : Q (.bl (!x.isN)) μ) : opd Γ (compareOp .IsNot) x .non δ μ Q := opd_of op_notN fun F σ H vx vy a r1 r2 => by
  rw [dpN r2]; refine ⟨rfl, PostE.here a (d := .bl _) dpb ?_⟩; rw [dp_isN r1]; exact q
/-! ### texts, lists, tuples put together -/
theorem opd_addS {i j : Str} (hl : i.length + j.length ≤ sizeLine) (q : Q (.str (i ++ j)) μ) : opd Γ (binaryOp .Add) (.str i) (.str j) δ μ Q := opd_of op_add_str fun F σ H vx vy a r1 r2 => by
  rw [dpS r1, dpS r2]; exact ⟨i, j, rfl, rfl, hl, PostE.here a dps q⟩
theorem opd_cat {xs ys : List D} (hl : xs.length + ys.length ≤ sizeLine) (q : Q (.lst (xs ++ ys)) μ) : opd Γ (binaryOp .Add) (.lst xs) (.lst ys) δ μ Q := opd_of op_cat fun F σ H vx vy a r1 r2 => by
  obtain ⟨p1, vs, rfl, h1, h2⟩ := dpL r1
  obtain ⟨p2, ws, rfl, h3, h4⟩ := dpL r2
  refine ⟨p1, p2, vs, ws, rfl, rfl, a.sx.sub _ _ h1, a.sx.sub _ _ h3, by rw [← h2.length, ← h4.length]; exact hl, fun p hp => ?_⟩
  have sF := same_upd (o := HO.lst (vs ++ ws)) (a.sx.sub.free hp)
  exact PostE.new a hp (dpl upd_same ((h2.append h4).mono sF)) q
/-! ### subscripts -/
theorem ixd_lst {xs : List D} {i : Int} {d : D} (h : atI xs i = some d) (q : Q d μ) : ixd Γ (.lst xs) (.int i) δ μ Q := ixd_of ix_list fun F σ H vx vy a r1 r2 => by
  obtain ⟨p1, vs, rfl, h1, h2⟩ := dpL r1
  rw [dpI r2]
  obtain ⟨j, e1, e2⟩ : ∃ j, ixN xs.length i = some j ∧ xs[j]? = some d := by
    unfold atI at h
    cases e : ixN xs.length i with
    | none => rw [e] at h; cases h
    | some j => rw [e] at h; exact ⟨j, rfl, h⟩
  obtain ⟨v, e3, r⟩ := h2.get e2
  exact ⟨p1, vs, i, v, rfl, rfl, .inl (.inl (a.sx.sub _ _ h1)), by unfold atI; rw [← h2.length, e1]; exact e3, PostE.here a r q⟩
theorem ixd_tup {xs : List D} {i : Int} {d : D} (h : atI xs i = some d) (q : Q d μ) : ixd Γ (.tup xs) (.int i) δ μ Q := ixd_of ix_tup fun F σ H vx vy a r1 r2 => by
  obtain ⟨p1, vs, rfl, h1, h2⟩ := dpT r1
  rw [dpI r2]
  obtain ⟨j, e1, e2⟩ : ∃ j, ixN xs.length i = some j ∧ xs[j]? = some d := by
    unfold atI at h
    cases e : ixN xs.length i with
    | none => rw [e] at h; cases h
    | some j => rw [e] at h; exact ⟨j, rfl, h⟩
  obtain ⟨v, e3, r⟩ := h2.get e2
  exact ⟨p1, vs, i, v, rfl, rfl, Same.sqT a.sx.sub h1, by unfold atI; rw [← h2.length, e1]; exact e3, PostE.here a r q⟩
/-- an owned list -/
theorem ixd_own {p : Addr} {xs : List D} {i : Int} {d : D} (hm : (p, Cell.lst xs) ∈ μ) (h : atI xs i = some d) (q : Q d μ) : ixd Γ (.ref p) (.int i) δ μ Q := ixd_of ix_list fun F σ H vx vy a r1 r2 => by
  rw [dpR r1, dpI r2]
  obtain ⟨vs, h1, h2⟩ := a.sx.cells _ hm
  obtain ⟨j, e1, e2⟩ : ∃ j, ixN xs.length i = some j ∧ xs[j]? = some d := by
    unfold atI at h
    cases e : ixN xs.length i with
    | none => rw [e] at h; cases h
    | some j => rw [e] at h; exact ⟨j, rfl, h⟩
  obtain ⟨v, e3, r⟩ := h2.get e2
  exact ⟨p, vs, i, v, rfl, rfl, .inl (.inl h1), by unfold atI; rw [← h2.length, e1]; exact e3, PostE.here a r q⟩
theorem sld_lst {xs : List D} {lo hi : Option Int} (q : Q (.lst ((xs.drop (HT.sIx xs.length 0 lo)).take (HT.sIx xs.length xs.length hi - HT.sIx xs.length 0 lo))) μ) : sld Γ (rSlL Γ.X.K) (.lst xs) lo hi δ μ Q := fun F σ H vx a r1 => by
  obtain ⟨p1, vs, rfl, h1, h2⟩ := dpL r1
  refine ⟨p1, vs, rfl, .inl (.inl (a.sx.sub _ _ h1)), fun p hp => ?_⟩
  have sF := same_upd (o := HO.lst (cutV vs lo hi)) (a.sx.sub.free hp)
  refine PostE.new a hp (dpl upd_same (Dps.mono sF ?_)) q
  unfold cutV
  rw [← h2.length]
  exact (h2.drop _).take _
theorem sld_rl {xs : List D} {lo hi : Option Int} (q : Q (.lst ((xs.drop (HT.sIx xs.length 0 lo)).take (HT.sIx xs.length xs.length hi - HT.sIx xs.length 0 lo))) μ) : sld Γ (rSlL Γ.X.K) (.rl xs) lo hi δ μ Q := fun F σ H vx a r1 => by
  obtain ⟨p1, vs, rfl, h1, h2⟩ := dpRl r1
  refine ⟨p1, vs, rfl, a.sx.sub.seq h1, fun p hp => ?_⟩
  have sF := same_upd (o := HO.lst (cutV vs lo hi)) (a.sx.sub.free hp)
  refine PostE.new a hp (dpl upd_same (Dps.mono sF ?_)) q
  unfold cutV
  rw [← h2.length]
  exact (h2.drop _).take _
theorem rSlL_mono (K : PySem.W.Frag) : ∀ x l u H Q Q', (∀ v H', Q v H' → Q' v H') → rSlL K x l u H Q → rSlL K x l u H Q' := fun x l u H Q Q' k h => by
  obtain ⟨a, xs, e, h1, h2⟩ := h
  exact ⟨a, xs, e, h1, fun p hp => k _ _ (h2 p hp)⟩
theorem sld_str {z : Str} {lo hi : Option Int} (hz : z.length ≤ sizeLine) (q : Q (.str (cutS z lo hi)) μ) : sld Γ rSlS (.str z) lo hi δ μ Q := fun F σ H vx a r1 => by
  rw [dpS r1]
  exact ⟨z, rfl, hz, PostE.here a dps q⟩
theorem rSlS_mono : ∀ x l u H Q Q', (∀ v H', Q v H' → Q' v H') → rSlS x l u H Q → rSlS x l u H Q' := fun x l u H Q Q' k h => by
  obtain ⟨a, e, h1, h2⟩ := h
  exact ⟨a, e, h1, k _ _ h2⟩
/-! ### built-ins -/
theorem cld_len_lst {xs : List D} (q : Q (.int xs.length) μ) : cld Γ (.builtin "len") [.lst xs] δ μ Q := cld_of call_len_seq fun F σ H vs a r0 => by
  obtain ⟨v, rfl, r⟩ := r0.one
  obtain ⟨p1, vs, rfl, h1, h2⟩ := dpL r
  refine ⟨p1, vs, rfl, .inl (.inl (.inl (a.sx.sub _ _ h1))), PostE.here a (d := .int _) dpi ?_⟩
  rw [← h2.length]; exact q
theorem cld_len_rl {xs : List D} (q : Q (.int xs.length) μ) : cld Γ (.builtin "len") [.rl xs] δ μ Q := cld_of call_len_seq fun F σ H vs a r0 => by
  obtain ⟨v, rfl, r⟩ := r0.one
  obtain ⟨p1, vs, rfl, h1, h2⟩ := dpRl r
  refine ⟨p1, vs, rfl, .inl (a.sx.sub.seq h1), PostE.here a (d := .int _) dpi ?_⟩
  rw [← h2.length]; exact q
theorem cld_len_tup {xs : List D} (q : Q (.int xs.length) μ) : cld Γ (.builtin "len") [.tup xs] δ μ Q := cld_of call_len_seq fun F σ H vs a r0 => by
  obtain ⟨v, rfl, r⟩ := r0.one
  obtain ⟨p1, vs, rfl, h1, h2⟩ := dpT r
  refine ⟨p1, vs, rfl, .inr (Same.sqT a.sx.sub h1), PostE.here a (d := .int _) dpi ?_⟩
  rw [← h2.length]; exact q
theorem cld_len_own {p : Addr} {xs : List D} (hm : (p, Cell.lst xs) ∈ μ) (q : Q (.int xs.length) μ) : cld Γ (.builtin "len") [.ref p] δ μ Q := cld_of call_len_seq fun F σ H vs a r0 => by
  obtain ⟨v, rfl, r⟩ := r0.one
  rw [dpR r]
  obtain ⟨vs, h1, h2⟩ := a.sx.cells _ hm
  refine ⟨p, vs, rfl, .inl (.inl (.inl h1)), PostE.here a (d := .int _) dpi ?_⟩
  rw [← h2.length]; exact q
theorem cld_len_str {z : Str} (hz : z.length ≤ sizeLine) (q : Q (.int z.length) μ) : cld Γ (.builtin "len") [.str z] δ μ Q := cld_of call_len_str fun F σ H vs a r0 => by
  obtain ⟨v, rfl, r⟩ := r0.one
  rw [dpS r]
  exact ⟨z, rfl, hz, PostE.here a dpi q⟩
theorem cld_int {i : Int} (q : Q (.int i) μ) : cld Γ (.type "int") [.int i] δ μ Q := cld_of call_int1 fun F σ H vs a r0 => by
  obtain ⟨v, rfl, r⟩ := r0.one
  rw [dpI r]; exact .inl ⟨i, rfl, PostE.here a dpi q⟩
theorem cld_abs {i : Int} (q : Q (.int (if i < 0 then -i else i)) μ) : cld Γ (.builtin "abs") [.int i] δ μ Q := cld_of call_abs fun F σ H vs a r0 => by
  obtain ⟨v, rfl, r⟩ := r0.one
  rw [dpI r]; exact ⟨i, rfl, PostE.here a dpi q⟩
theorem cld_tuple_lst {xs : List D} (q : Q (.tup xs) μ) : cld Γ (.type "tuple") [.lst xs] δ μ Q := cld_of call_tuple_of fun F σ H vs a r0 => by
  obtain ⟨v, rfl, r⟩ := r0.one
  obtain ⟨p1, vs, rfl, h1, h2⟩ := dpL r
  refine ⟨p1, vs, rfl, .inl ⟨.inl (.inl (a.sx.sub _ _ h1)), fun p hp => ?_⟩⟩
  exact PostE.new a hp (dpt (.inl (.inl upd_same)) (h2.mono (same_upd (a.sx.sub.free hp)))) q
theorem cld_tuple_tup {xs : List D} (q : Q (.tup xs) μ) : cld Γ (.type "tuple") [.tup xs] δ μ Q := cld_of call_tuple_of fun F σ H vs a r0 => by
  obtain ⟨v, rfl, r⟩ := r0.one
  obtain ⟨p1, vs, rfl, h1, h2⟩ := dpT r
  exact ⟨p1, vs, rfl, .inr ⟨Same.sqT a.sx.sub h1, PostE.here a (dpt h1 h2) q⟩⟩
theorem cld_tuple_own {p0 : Addr} {xs : List D} (hm : (p0, Cell.lst xs) ∈ μ) (q : Q (.tup xs) μ) : cld Γ (.type "tuple") [.ref p0] δ μ Q := cld_of call_tuple_of fun F σ H vs a r0 => by
  obtain ⟨v, rfl, r⟩ := r0.one
  rw [dpR r]
  obtain ⟨vs, h1, h2⟩ := a.sx.cells _ hm
  refine ⟨p0, vs, rfl, .inl ⟨.inl (.inl h1), fun p hp => ?_⟩⟩
  exact PostE.new a hp (dpt (.inl (.inl upd_same)) (h2.mono (same_upd (a.sx.sub.free hp)))) q
theorem cld_list_tup {xs : List D} (q : Q (.lst xs) μ) : cld Γ (.type "list") [.tup xs] δ μ Q := cld_of call_list_of fun F σ H vs a r0 => by
  obtain ⟨v, rfl, r⟩ := r0.one
  obtain ⟨p1, vs, rfl, h1, h2⟩ := dpT r
  refine ⟨p1, vs, rfl, .inr (Same.sqT a.sx.sub h1), fun p hp => ?_⟩
  exact PostE.new a hp (dpl upd_same (h2.mono (same_upd (a.sx.sub.free hp)))) q
theorem cld_list_lst {xs : List D} (q : Q (.lst xs) μ) : cld Γ (.type "list") [.lst xs] δ μ Q := cld_of call_list_of fun F σ H vs a r0 => by
  obtain ⟨v, rfl, r⟩ := r0.one
  obtain ⟨p1, vs, rfl, h1, h2⟩ := dpL r
  refine ⟨p1, vs, rfl, .inl (.inl (.inl (a.sx.sub _ _ h1))), fun p hp => ?_⟩
  exact PostE.new a hp (dpl upd_same (h2.mono (same_upd (a.sx.sub.free hp)))) q
theorem cld_all (hc : Γ.X.calm = true) {bs : List Bool} (q : Q (.bl (bs.all id)) μ) : cld Γ (.builtin "all") [.lst (bs.map .bl)] δ μ Q := cld_of (cr_all hc) fun F σ H vs a r0 => by
  obtain ⟨v, rfl, r⟩ := r0.one
  obtain ⟨p1, vs, rfl, h1, h2⟩ := dpL r
  rw [Dps.bls h2] at h1
  exact ⟨p1, bs, rfl, .inl (.inl (a.sx.sub _ _ h1)), PostE.here a dpb q⟩
theorem cld_any (hc : Γ.X.calm = true) {bs : List Bool} (q : Q (.bl (bs.any id)) μ) : cld Γ (.builtin "any") [.lst (bs.map .bl)] δ μ Q := cld_of (cr_any hc) fun F σ H vs a r0 => by
  obtain ⟨v, rfl, r⟩ := r0.one
  obtain ⟨p1, vs, rfl, h1, h2⟩ := dpL r
  rw [Dps.bls h2] at h1
  exact ⟨p1, bs, rfl, .inl (.inl (a.sx.sub _ _ h1)), PostE.here a dpb q⟩
end
/-! ### methods -/
theorem tyV_of {Γ : Ct} {F H : Hp} {δ : Dl} {μ : Mu} {σ : L2.St} {T : String} {x : D} {v : V} (a : At Γ F δ μ σ H) (r : Dp Γ.X.K F x v) (h : tyD T x μ) : tyV Γ.X.K T v H := by
  cases x with
  | str z => rw [dpS r]; exact h
  | lst ds =>
    obtain ⟨p, vs, rfl, h1, _⟩ := dpL r
    exact .inl ⟨h, vs, .inl (.inl (a.sx.sub _ _ h1))⟩
  | dK ks ds =>
    rw [Dp] at r
    obtain ⟨p, kvs, rfl, h1, _⟩ := r
    exact .inr (.inr (.inl ⟨h, .inl ⟨kvs, a.sx.sub _ _ h1⟩⟩))
  | ref p =>
    rw [dpR r]
    rcases h with ⟨ds, hm, e⟩ | ⟨ks, ds, hm, e⟩ | ⟨ks, ds, hm, e⟩ | ⟨S, n, hm, e⟩
    · obtain ⟨vs, h1, _⟩ := a.sx.cells _ hm
      exact .inl ⟨e, vs, .inl (.inl h1)⟩
    · obtain ⟨vs, h1, _⟩ := a.sx.cells _ hm
      exact .inr (.inr (.inl ⟨e, .inl ⟨vs, h1⟩⟩))
    · obtain ⟨vs, h1, _⟩ := a.sx.cells _ hm
      exact .inr (.inr (.inl ⟨e, .inr ⟨vs, h1⟩⟩))
    · exact .inr (.inr (.inr ⟨e, S, n, a.sx.cells _ hm⟩))
  | _ => exact h.elim
section
variable {Γ : Ct} {δ : Dl} {μ : Mu} {Q : D → Mu → Prop} {x y : D} {o e : Expr} {es : List Expr} {name : Str} {apos cpos : Pos} {T id : String}
theorem ed_bm (pa : PlainAttrs T) (slot : Slot T name id) (hty : typeOf (.builtin id) = pure (.type "method_descriptor")) (h : ed Γ o δ μ fun x μ1 => tyD T x μ1 ∧ ea Γ (e :: es) δ μ1 fun xs μ2 => mtd Γ id x xs δ μ2 Q)
    (hbase : attributeBase o name Γ.X.env (eval o Γ.X.env) = eval o Γ.X.env := by with_unfolding_all rfl)
    (hfew : ((backTo cpos (starEach (e :: es) Γ.X.env)).all (fun x => !x.1) && (backToKw cpos (keywordEach [] Γ.X.env)).all (fun x => x.1.isSome)
      && decide ((e :: es).length + ([] : List Keyword).length + (if ([] : List Keyword).isEmpty then 0 else 1) < 30)) = true := by with_unfolding_all rfl)
    (hline : (apos.endLine == cpos.line) = true := by with_unfolding_all rfl) (hs : starEach (e :: es) Γ.X.env = (false, eval e Γ.X.env) :: starEach es Γ.X.env := by with_unfolding_all rfl) (hplain : (backTo cpos (starEach es Γ.X.env)).any (·.1) = false := by with_unfolding_all rfl) :
    ed Γ (.Call (.Attribute o name apos) (e :: es) [] cpos) δ μ Q := fun F σ H at_ =>
  we_of (pe_bm pa slot hty rmf_ok pe_we pa_wa hbase hfew hline hs hplain) (we_mono (h F σ H at_) fun v H1 ⟨F1, d1, μ1, s1, h1, r1, ty, q1⟩ => ⟨tyV_of h1 r1 ty,
    wa_mono (q1 F1 σ H1 h1) fun vs H2 ⟨F2, ds, μ2, s2, h2, r2, q2⟩ => rmf_mono (q2 F2 σ H2 v vs h2 (r1.mono s2) r2) fun v H' z => PostE.up (s1.trans s2) z⟩)
theorem ed_bm0 (pa : PlainAttrs T) (slot : Slot T name id) (hty : typeOf (.builtin id) = pure (.type "method_descriptor")) (h : ed Γ o δ μ fun x μ1 => tyD T x μ1 ∧ mtd Γ id x [] δ μ1 Q)
    (hbase : attributeBase o name Γ.X.env (eval o Γ.X.env) = eval o Γ.X.env := by with_unfolding_all rfl) (hline : (apos.endLine == cpos.line) = true := by with_unfolding_all rfl) :
    ed Γ (.Call (.Attribute o name apos) [] [] cpos) δ μ Q := fun F σ H at_ =>
  we_of (pe_bm0 pa slot hty rmf_ok pe_we hbase hline) (we_mono (h F σ H at_) fun v H1 ⟨F1, d1, μ1, s1, h1, r1, ty, q1⟩ => ⟨tyV_of h1 r1 ty, rmf_mono (q1 F1 σ H1 v [] h1 r1 Dps.nil) fun v H' z => PostE.up s1 z⟩)
theorem mem_mid {α : Type} {a : α} {l1 l2 : List α} : a ∈ l1 ++ a :: l2 := List.mem_append_right _ List.mem_cons_self
/-- xs.append(d), xs owned -/
theorem mtd_append {p : Addr} {xs : List D} {d : D} {μ1 μ2 : Mu} (hl : xs.length < sizeLine) (q : Q .non (μ1 ++ (p, .lst (xs ++ [d])) :: μ2)) : mtd Γ "list.append" (.ref p) [d] δ (μ1 ++ (p, .lst xs) :: μ2) Q := mtd_of mt_append fun F σ H vx vs a r1 r2 => by
  rw [dpR r1]
  obtain ⟨v, rfl, r3⟩ := r2.one
  obtain ⟨ws, h1, h2⟩ := a.sx.cells (p, .lst xs) mem_mid
  exact ⟨p, ws, v, rfl, rfl, h1, by rw [← h2.length]; exact hl, F, .non, _, Same.refl F, a.put (c' := .lst (xs ++ [d])) ⟨_, upd_same, h2.append (Dps.cons r3 Dps.nil)⟩, dpn, q⟩
/-- xs.extend(ys), xs owned, ys a list -/
theorem mtd_extend {p : Addr} {xs ys : List D} {μ1 μ2 : Mu} (hl : xs.length + ys.length ≤ sizeLine) (q : Q .non (μ1 ++ (p, .lst (xs ++ ys)) :: μ2)) : mtd Γ "list.extend" (.ref p) [.lst ys] δ (μ1 ++ (p, .lst xs) :: μ2) Q := mtd_of mt_extend fun F σ H vx vs a r1 r2 => by
  rw [dpR r1]
  obtain ⟨v, rfl, r3⟩ := r2.one
  obtain ⟨b, zs, rfl, h3, h4⟩ := dpL r3
  obtain ⟨ws, h1, h2⟩ := a.sx.cells (p, .lst xs) mem_mid
  exact ⟨p, b, ws, zs, rfl, rfl, h1, a.sx.sub _ _ h3, by rw [← h2.length, ← h4.length]; exact hl, F, .non, _, Same.refl F, a.put (c' := .lst (xs ++ ys)) ⟨_, upd_same, h2.append h4⟩, dpn, q⟩
/-- xs.pop(), xs owned -/
theorem mtd_pop {p : Addr} {xs : List D} {d : D} {μ1 μ2 : Mu} (hd : xs[xs.length - 1]? = some d) (q : Q d (μ1 ++ (p, .lst xs.dropLast) :: μ2)) : mtd Γ "list.pop" (.ref p) [] δ (μ1 ++ (p, .lst xs) :: μ2) Q := mtd_of mt_pop fun F σ H vx vs a r1 r2 => by
  rw [dpR r1, r2.unnil]
  obtain ⟨ws, h1, h2⟩ := a.sx.cells (p, .lst xs) mem_mid
  obtain ⟨v, e, r⟩ := h2.get hd
  rw [h2.length] at e
  exact ⟨p, ws, v, rfl, rfl, h1, e, F, d, _, Same.refl F, a.put (c' := .lst xs.dropLast) ⟨_, upd_same, h2.dropLast⟩, r, q⟩
/-! ### xs[i] = d, xs owned -/
theorem gd_setL {o i : Expr} {pos : Pos} {v : D} {Q : Dl → Mu → Prop} (h : ed Γ o δ μ fun x μ1 => ed Γ i δ μ1 fun y μ2 => ∃ p k j xs μa μb, x = .ref p ∧ y = .int k ∧ μ2 = μa ++ (p, .lst xs) :: μb ∧ ixN xs.length k = some j ∧ Q δ (μa ++ (p, .lst (xs.set j v)) :: μb))
    (ha : ∀ v, assign (.Subscript o i pos) Γ.X.env v = (do
      let ov ← holding [v] (eval o Γ.X.env)
      let iv ← holding [v, ov] (eval i Γ.X.env)
      standAt pos
      holding [v, ov, iv] (setItem ov iv v)
      release [v, ov, iv] []) := by intro _; rfl) : gd Γ (.Subscript o i pos) v δ μ Q := fun F σ H vv at_ rv => by
  refine wg_of (pg_sub pe_we pe_we set_list ha) (we_mono (h F σ H at_) fun x H1 ⟨F1, d1, μ1, s1, h1, r1, q1⟩ => we_mono (q1 F1 σ H1 h1) fun y H2 ⟨F2, d2, μ2, s2, h2, r2, p, k, j, xs, μa, μb, e1, e2, e3, e4, q2⟩ => ?_)
  subst e1 e2 e3
  rw [dpR r1, dpI r2]
  obtain ⟨ws, g1, g2⟩ := h2.sx.cells (p, .lst xs) mem_mid
  exact ⟨p, ws, k, j, rfl, rfl, g1, by rw [← g2.length]; exact e4, F2, δ, _, s1.trans s2, h2.put (c' := .lst (xs.set j v)) ⟨_, upd_same, g2.set j (rv.mono (s1.trans s2))⟩, q2⟩
end
end PD
/-! PD4: what is walked, loops, comprehensions. -/
namespace PD
open PySem PySem.Spec PyProof.Rows L2
/-! ### a later start -/
theorem wofD_here {K : PySem.W.Frag} {F0 F H0 H : Hp} {μ0 μ : Mu} {W : XD} (st : Step F0 μ0 H0 F μ H) : ∀ c d σ H', WofD K F μ H W c d σ H' → WofD K F0 μ0 H0 W c d σ H' := fun c d σ H' h => by
  obtain ⟨F2, μ2, δ, ns, ds, s, x⟩ := h; exact ⟨F2, μ2, δ, ns, ds, st.trans s, x⟩
def Ct.here (Γ : Ct) {F H : Hp} {μ : Mu} (st : Step Γ.F0 Γ.μ0 Γ.H0 F μ H) : Ct := ⟨Γ.X, F, μ, H, Γ.W, Γ.nn, Γ.tk.imp (wofD_here st), Γ.po⟩
section
variable {Γ : Ct} {F F' F2 H H' H2 : Hp} {δ δ' : Dl} {μ μ' : Mu} {σ σ' : L2.St}
theorem At.here (a : At Γ F δ μ σ H) : At (Γ.here a.st) F δ μ σ H := ⟨Step.refl _ _ _, a.sx, a.fr⟩
theorem At.back {st : Step Γ.F0 Γ.μ0 Γ.H0 F μ H} (a : At (Γ.here st) F2 δ' μ' σ' H2) : At Γ F2 δ' μ' σ' H2 := ⟨st.trans a.st, a.sx, a.fr⟩
theorem At.frame (a : At Γ F δ μ σ H) (h : Fr Γ.X.K F σ' δ') : At Γ F δ' μ σ' H := ⟨a.st, a.sx, h⟩
theorem At.updFree (a : At Γ F δ μ σ H) {p : Addr} {o : HO} (h0 : Γ.H0 p = none ∨ p ∈ dom Γ.μ0) (hF : F p = none) (hμ : p ∉ dom μ) : At Γ F δ μ σ (upd H p o) := by
  refine ⟨⟨a.st.ext, fun b u h hn => ?_, a.st.new, a.st.cell⟩, ⟨fun b u h => ?_, a.sx.off, a.sx.nd, fun c hc => (a.sx.cells c hc).mono (Same.refl F) (upd_ne fun e => hμ (by rw [← e]; exact List.mem_map.mpr ⟨c, hc, rfl⟩))⟩, a.fr⟩
  · have hb : b ≠ p := fun z => by
      rcases h0 with q | q
      · rw [z, q] at h; cases h
      · exact hn (by rw [z]; exact q)
    rw [upd_ne hb]; exact a.st.keep b u h hn
  · rw [upd_ne (fun z => by rw [z, hF] at h; cases h)]; exact a.sx.sub _ _ h
end
/-! ### what is walked -/
structure ItOk (K : PySem.W.Frag) (J : It) (ds : List D) (S : Mu → Prop) (F1 : Hp) : Prop where
  go : ∀ (Γ : Ct), Γ.X.K = K → ∀ i F δ μ σ H, Same F1 F → At Γ F δ μ σ H → S μ → ∀ d, ds[i]? = some d → J.go i H ∧ ∀ x H', J.yld i H x H' → ∃ F', Same F F' ∧ At Γ F' δ μ σ H' ∧ Dp K F' d x
  stop : ∀ (Γ : Ct), Γ.X.K = K → ∀ i F δ μ σ H, Same F1 F → At Γ F δ μ σ H → S μ → ds.length ≤ i → J.stop i H
def eid (Γ : Ct) (tg iter : Expr) (δ : Dl) (μ : Mu) (R : List D → (Mu → Prop) → Mu → Prop) : Prop := ∀ F σ H, At Γ F δ μ σ H → wi Γ.X tg iter σ H fun J H1 => ∃ F1 ds S μ1, Same F F1 ∧ At Γ F1 δ μ1 σ H1 ∧ ItOk Γ.X.K J ds S F1 ∧ R ds S μ1
/-- pyIter of a value -/
def itf (X : Cx) (tg : Expr) (x : V) (H : Hp) (R : It → Hp → Prop) : Prop := ∀ (pins : List (Addr × Obj)) (s : Shared) (σ : L2.St) (v : Value), Inv X pins σ H s → RelV x v → wpAny (model X.prog X.w) X.A (pyIter v) (PIE X pins σ tg R) X.xe s
theorem itf_list {X : Cx} {tg : Expr} {a : Addr} {xs : List V} {H : Hp} {R : It → Hp → Prop} (hq : SqL X.K H a xs) (q : R (Itl X.K a) H) : itf X tg (.ref a) H R := fun pins s σ v I1 r1 => by
  cases r1
  obtain ⟨its, rv, p, hz⟩ := I1.list hq
  refine wpAny_pyIter_list p.isList ?_
  refine ⟨s.heap.objs.size, [s.heap.objs.size], _, _, H, rfl, I1.kept (t' := s.toks) fun b o e => Heap.get?_push_of_some _ e, turn_list a _, ⟨_, Heap.get?_push_size _ rfl, rfl, rfl⟩, fun b hb => ?_, q⟩
  have e : b = s.heap.objs.size := by simpa using hb
  subst e
  exact I1.fpOk (Nat.le_refl _) (I1.hok.fresh (Nat.le_refl _))
theorem itf_tup {X : Cx} {tg : Expr} {a : Addr} {xs : List V} {H : Hp} {R : It → Hp → Prop} (hq : SqT X.K H a xs) (q : R (Itt X.K a) H) : itf X tg (.ref a) H R := fun pins s σ v I1 r1 => by
  cases r1
  obtain ⟨its, rv, p, hz⟩ := I1.tuple hq
  refine wpAny_pyIter_tuple (show s.heap.IsTuple a its.toArray from p) ?_
  refine ⟨s.heap.objs.size, [s.heap.objs.size], _, _, H, rfl, I1.kept (t' := s.toks) fun b o e => Heap.get?_push_of_some _ e, turn_tuple a _, ⟨_, Heap.get?_push_size _ rfl, rfl, rfl⟩, fun b hb => ?_, q⟩
  have e : b = s.heap.objs.size := by simpa using hb
  subst e
  exact I1.fpOk (Nat.le_refl _) (I1.hok.fresh (Nat.le_refl _))
theorem itf_mono {X : Cx} {tg : Expr} {x : V} {H : Hp} {R R' : It → Hp → Prop} (h : itf X tg x H R) (k : ∀ J H', R J H' → R' J H') : itf X tg x H R' := fun pins s σ v I r =>
  thn (h pins s σ v I r) fun itv s2 ⟨it, fp, tn, J, H', e, I2, T, st, f, r⟩ => ⟨it, fp, tn, J, H', e, I2, T, st, f, k J H' r⟩
def PostI (Γ : Ct) (F : Hp) (δ : Dl) (σ : L2.St) (R : List D → (Mu → Prop) → Mu → Prop) : It → Hp → Prop := fun J H1 => ∃ F1 ds S μ1, Same F F1 ∧ At Γ F1 δ μ1 σ H1 ∧ ItOk Γ.X.K J ds S F1 ∧ R ds S μ1
theorem PostI.up {Γ : Ct} {F F' : Hp} {δ : Dl} {σ : L2.St} {R : List D → (Mu → Prop) → Mu → Prop} (e : Same F F') {J : It} {H1 : Hp} (h : PostI Γ F' δ σ R J H1) : PostI Γ F δ σ R J H1 := by
  obtain ⟨F1, ds, S, μ1, s, x⟩ := h; exact ⟨F1, ds, S, μ1, e.trans s, x⟩
def itd (Γ : Ct) (tg : Expr) (x : D) (δ : Dl) (μ : Mu) (R : List D → (Mu → Prop) → Mu → Prop) : Prop := ∀ F σ H v, At Γ F δ μ σ H → Dp Γ.X.K F x v → itf Γ.X tg v H (PostI Γ F δ σ R)
section
variable {Γ : Ct} {tg iter : Expr} {δ : Dl} {μ : Mu} {R : List D → (Mu → Prop) → Mu → Prop}
theorem pi_itf {X : Cx} : PI X tg iter (fun σ H R => we X iter σ H fun x H1 => itf X tg x H1 R) := ⟨fun pins s σ H R I h => thn (h pins s I) fun v s1 ⟨x, H1, I1, r1, q1⟩ => q1 pins s1 σ v I1 r1⟩
theorem eid_of (h : ed Γ iter δ μ fun d μ1 => itd Γ tg d δ μ1 R) : eid Γ tg iter δ μ R := fun F σ H a =>
  wi_of pi_itf (we_mono (h F σ H a) fun v H1 ⟨F1, d, μ1, s1, a1, r1, q1⟩ => itf_mono (q1 F1 σ H1 v a1 r1) fun J H' z => PostI.up s1 z)
theorem itOk_list {K : PySem.W.Frag} {F : Hp} {a : Addr} {vs : List V} {ds : List D} (h : F a = some (.lst vs)) (r : Dps K F ds vs) : ItOk K (Itl K a) ds (fun _ => True) F where
  go := fun Γ hK i F2 δ μ σ H s a2 _ d hd => by
    have hl : SqL K H a vs := .inl (.inl (a2.sx.sub _ _ (s _ _ h)))
    obtain ⟨v, e1, r1⟩ := (r.mono s).get hd
    refine ⟨⟨vs, v, hl, e1⟩, fun x H' y => ?_⟩
    obtain ⟨e2, y⟩ := y
    rw [e2]
    have e3 := y vs hl
    rw [e1] at e3
    rw [← Option.some.inj e3]
    exact ⟨F2, Same.refl _, a2, r1⟩
  stop := fun Γ hK i F2 δ μ σ H s a2 _ hi => ⟨vs, .inl (.inl (a2.sx.sub _ _ (s _ _ h))), by rw [← r.length]; exact hi⟩
theorem itOk_rl {K : PySem.W.Frag} {F : Hp} {a : Addr} {vs : List V} {ds : List D} (h : SqL K F a vs) (r : Dps K F ds vs) : ItOk K (Itl K a) ds (fun _ => True) F where
  go := fun Γ hK i F2 δ μ σ H s a2 _ d hd => by
    have hl : SqL K H a vs := a2.sx.sub.seq (s.seq h)
    obtain ⟨v, e1, r1⟩ := (r.mono s).get hd
    refine ⟨⟨vs, v, hl, e1⟩, fun x H' y => ?_⟩
    obtain ⟨e2, y⟩ := y
    rw [e2]
    have e3 := y vs hl
    rw [e1] at e3
    rw [← Option.some.inj e3]
    exact ⟨F2, Same.refl _, a2, r1⟩
  stop := fun Γ hK i F2 δ μ σ H s a2 _ hi => ⟨vs, a2.sx.sub.seq (s.seq h), by rw [← r.length]; exact hi⟩
theorem itOk_tup {K : PySem.W.Frag} {F : Hp} {a : Addr} {vs : List V} {ds : List D} (h : SqT K F a vs) (r : Dps K F ds vs) : ItOk K (Itt K a) ds (fun _ => True) F where
  go := fun Γ hK i F2 δ μ σ H s a2 _ d hd => by
    have hl : SqT K H a vs := Same.sqT a2.sx.sub (Same.sqT s h)
    obtain ⟨v, e1, r1⟩ := (r.mono s).get hd
    refine ⟨⟨vs, v, hl, e1⟩, fun x H' y => ?_⟩
    obtain ⟨e2, y⟩ := y
    rw [e2]
    have e3 := y vs hl
    rw [e1] at e3
    rw [← Option.some.inj e3]
    exact ⟨F2, Same.refl _, a2, r1⟩
  stop := fun Γ hK i F2 δ μ σ H s a2 _ hi => ⟨vs, Same.sqT a2.sx.sub (Same.sqT s h), by rw [← r.length]; exact hi⟩
theorem itOk_own {K : PySem.W.Frag} {F : Hp} {a : Addr} {ds : List D} : ItOk K (Itl K a) ds (fun μ => (a, Cell.lst ds) ∈ μ) F where
  go := fun Γ hK i F2 δ μ σ H s a2 hm d hd => by
    subst hK
    obtain ⟨vs, h1, r⟩ := a2.sx.cells _ hm
    have hl : SqL Γ.X.K H a vs := .inl (.inl h1)
    obtain ⟨v, e1, r1⟩ := r.get hd
    refine ⟨⟨vs, v, hl, e1⟩, fun x H' y => ?_⟩
    obtain ⟨e2, y⟩ := y
    rw [e2]
    have e3 := y vs hl
    rw [e1] at e3
    rw [← Option.some.inj e3]
    exact ⟨F2, Same.refl _, a2, r1⟩
  stop := fun Γ hK i F2 δ μ σ H s a2 hm hi => by
    subst hK
    obtain ⟨vs, h1, r⟩ := a2.sx.cells _ hm
    exact ⟨vs, .inl (.inl h1), by rw [← r.length]; exact hi⟩
theorem itd_lst {ds : List D} (q : R ds (fun _ => True) μ) : itd Γ tg (.lst ds) δ μ R := fun F σ H v a r => by
  obtain ⟨p, vs, rfl, h1, h2⟩ := dpL r
  exact itf_list (.inl (.inl (a.sx.sub _ _ h1))) ⟨F, ds, _, μ, Same.refl F, a, itOk_list h1 h2, q⟩
theorem itd_rl {ds : List D} (q : R ds (fun _ => True) μ) : itd Γ tg (.rl ds) δ μ R := fun F σ H v a r => by
  obtain ⟨p, vs, rfl, h1, h2⟩ := dpRl r
  exact itf_list (a.sx.sub.seq h1) ⟨F, ds, _, μ, Same.refl F, a, itOk_rl h1 h2, q⟩
theorem itd_tup {ds : List D} (q : R ds (fun _ => True) μ) : itd Γ tg (.tup ds) δ μ R := fun F σ H v a r => by
  obtain ⟨p, vs, rfl, h1, h2⟩ := dpT r
  exact itf_tup (Same.sqT a.sx.sub h1) ⟨F, ds, _, μ, Same.refl F, a, itOk_tup h1 h2, q⟩
theorem itd_own {p : Addr} {ds : List D} (hm : (p, Cell.lst ds) ∈ μ) (q : R ds (fun μ => (p, Cell.lst ds) ∈ μ) μ) : itd Γ tg (.ref p) δ μ R := fun F σ H v a r => by
  rw [dpR r]
  obtain ⟨vs, h1, h2⟩ := a.sx.cells _ hm
  exact itf_list (.inl (.inl h1)) ⟨F, ds, _, μ, Same.refl F, a, itOk_own, q⟩
/-- range(n) -/
theorem itOk_range {K : PySem.W.Frag} {F : Hp} {lo : Int} {n : Nat} : ItOk K (Itr lo n) ((List.range n).map fun i : Nat => D.int (lo + i)) (fun _ => True) F where
  go := fun Γ hK i F2 δ μ σ H s a2 _ d hd => by
    rw [List.getElem?_map] at hd
    cases e : (List.range n)[i]? with
    | none => rw [e] at hd; cases hd
    | some j =>
      rw [e] at hd
      have hi : i < n := by
        have := (List.getElem?_eq_some_iff.mp e).1
        rw [List.length_range] at this; exact this
      have ej : j = i := by
        rw [List.getElem?_range hi] at e
        exact (Option.some.inj e).symm
      subst ej
      refine ⟨hi, fun x H' y => ?_⟩
      obtain ⟨e2, y⟩ := y
      rw [e2, y, ← Option.some.inj hd]
      exact ⟨F2, Same.refl _, a2, dpi⟩
  stop := fun Γ hK i F2 δ μ σ H s a2 _ hi => by
    rw [List.length_map, List.length_range] at hi; exact hi
theorem eid_range {e : Expr} {p pos : Pos} (hm : Γ.X.mg "range" = none) (h : ea Γ [e] δ μ fun ds μ1 => ∃ n : Int, ds = [.int n] ∧ n < 2 ^ 62 ∧ -(2 ^ 62) ≤ n ∧ R ((List.range n.toNat).map fun i : Nat => D.int (0 + i)) (fun _ => True) μ1)
    (hg : Gl Γ.X "range" := by rfl) (hs : starEach [e] Γ.X.env = [(false, eval e Γ.X.env)] := by rfl) : eid Γ tg (.Call (.Name "range" p) [e] [] pos) δ μ R := fun F σ H a =>
  wi_of (pi_range1 hg hm pa_wa hs) (wa_mono (h F σ H a) fun vs H1 ⟨F1, ds, μ1, s1, a1, r1, n, e1, h1, h2, q⟩ => by
    subst e1
    obtain ⟨v, rfl, r2⟩ := r1.one
    rw [dpI r2]
    exact ⟨n, rfl, h2, h1, F1, _, _, μ1, s1, a1, itOk_range, q⟩)
theorem eid_range2 {e e2 : Expr} {p pos : Pos} (hm : Γ.X.mg "range" = none) (h : ea Γ [e, e2] δ μ fun ds μ1 => ∃ i n : Int, ds = [.int i, .int n] ∧ (-(2 ^ 62) ≤ i ∧ i < 2 ^ 62 ∧ -(2 ^ 62) ≤ n ∧ n < 2 ^ 62) ∧ R ((List.range (n - i).toNat).map fun k : Nat => D.int (i + k)) (fun _ => True) μ1)
    (hg : Gl Γ.X "range" := by rfl) (hs : starEach [e, e2] Γ.X.env = [(false, eval e Γ.X.env), (false, eval e2 Γ.X.env)] := by rfl) (hs2 : starEach [e2] Γ.X.env = [(false, eval e2 Γ.X.env)] := by rfl) : eid Γ tg (.Call (.Name "range" p) [e, e2] [] pos) δ μ R := fun F σ H a =>
  wi_of (pi_range2 hg hm pa_wa hs hs2) (wa_mono (h F σ H a) fun vs H1 ⟨F1, ds, μ1, s1, a1, r1, i, n, e1, h1, q⟩ => by
    subst e1
    obtain ⟨v, w, rfl, r2, r3⟩ := r1.two
    rw [dpI r2, dpI r3]
    exact ⟨i, n, rfl, h1, F1, _, _, μ1, s1, a1, itOk_range, q⟩)
end
/-! ### for -/
section
variable {Γ : Ct} {tg iter : Expr} {body : List Stmt} {δ : Dl} {μ : Mu} {E : En} {pos : Pos}
theorem sd_for (hc : Γ.X.calm = true) (h : eid Γ tg iter δ μ fun ds S μ1 => ∃ I : Nat → Dl → Mu → Prop, I 0 δ μ1 ∧ (∀ i δ' μ', i ≤ ds.length → I i δ' μ' → S μ') ∧
      (∀ i d δ' μ', ds[i]? = some d → I i δ' μ' → gd Γ tg d δ' μ' fun δ2 μ2 => sds Γ body δ2 μ2 { E with nx := I (i + 1), ct := I (i + 1), bk := E.nx }) ∧ ∀ δ' μ', I ds.length δ' μ' → E.nx δ' μ')
    (hs : ∀ x, foldedSetIterable iter Γ.X.env x = pure x := by intro _; rfl) : sd Γ (.For tg iter body [] pos) δ μ E := fun F σ H a => by
  refine ws_of (ps_for Γ.po hc pi_wi pg_wg pss_wss hs) (wi_mono (h F σ H a) fun J H1 ⟨F1, ds, S, μ1, s1, a1, ok, I, h0, hS, hb, hd⟩ => ?_)
  refine ⟨fun i m σ' H' => m = ds.length - i ∧ i ≤ ds.length ∧ ∃ F' δ' μ', Same F1 F' ∧ At Γ F' δ' μ' σ' H' ∧ I i δ' μ', ⟨ds.length, by simp, Nat.zero_le _, F1, δ, μ1, Same.refl _, a1, h0⟩, ?_⟩
  rintro i m σ' H' ⟨rfl, hi, F', δ', μ', s', a', hI⟩
  by_cases hlt : i < ds.length
  · have e : ds[i]? = some ds[i] := List.getElem?_eq_getElem hlt
    obtain ⟨g1, g2⟩ := ok.go Γ rfl i F' δ' μ' σ' H' s' a' (hS i δ' μ' hi hI) _ e
    refine .inr ⟨g1, PostN Γ F1 (I (i + 1)), fun σ2 H2 ⟨F2, δ2, μ2, s2, a2, q2⟩ => ⟨ds.length - (i + 1), by omega, rfl, hlt, F2, δ2, μ2, s2, a2, q2⟩, fun x H2 y => ?_⟩
    obtain ⟨F2, s2, a2, r2⟩ := g2 x H2 y
    refine wg_mono (hb i _ δ' μ' e hI F2 σ' H2 x a2 r2) fun σ3 H3 ⟨F3, δ3, μ3, s3, a3, q3⟩ => ?_
    exact wss_mono (q3 F3 σ3 H3 a3) ⟨fun _ _ z => z.up ((s'.trans s2).trans s3), fun _ _ z => z.up ((s1.trans (s'.trans s2)).trans s3), fun _ _ z => z.up ((s1.trans (s'.trans s2)).trans s3), fun _ _ z => z.up ((s'.trans s2).trans s3)⟩
  · have e : i = ds.length := by omega
    subst e
    exact .inl ⟨ok.stop Γ rfl _ F' δ' μ' σ' H' s' a' (hS _ δ' μ' hi hI) (Nat.le_refl _), F', δ', μ', s1.trans s', a', hd _ _ hI⟩
/-- while, by an invariant and a measure of the state -/
theorem sd_while {c : Expr} (I : Nat → Dl → Mu → Prop) (m0 : Nat) (h0 : I m0 δ μ) (h : ∀ m δ' μ', I m δ' μ' → et Γ c δ' μ' fun b μ2 => if b = true then sds Γ body δ' μ2 { E with nx := fun δ3 μ3 => ∃ m', m' < m ∧ I m' δ3 μ3, ct := fun δ3 μ3 => ∃ m', m' < m ∧ I m' δ3 μ3, bk := E.nx } else E.nx δ' μ2) :
    sd Γ (.While c body [] pos) δ μ E := fun F σ H a => by
  refine ws_of (ps_while Γ.po pt_wt pss_wss) ?_
  refine ⟨fun m σ' H' => ∃ F' δ' μ', Same F F' ∧ At Γ F' δ' μ' σ' H' ∧ I m δ' μ', ⟨m0, F, δ, μ, Same.refl _, a, h0⟩, ?_⟩
  rintro m σ' H' ⟨F', δ', μ', s', a', hI⟩
  refine wt_mono (h m δ' μ' hI F' σ' H' a') fun b H2 ⟨F2, μ2, s2, a2, q2⟩ => ?_
  cases b with
  | true =>
    rw [if_pos rfl] at q2 ⊢
    refine ⟨PostN Γ F fun δ3 μ3 => ∃ m', m' < m ∧ I m' δ3 μ3, fun σ3 H3 ⟨F3, δ3, μ3, s3, a3, m', hm, q3⟩ => ⟨m', hm, F3, δ3, μ3, s3, a3, q3⟩, ?_⟩
    exact wss_mono (q2 F2 σ' H2 a2) ⟨fun _ _ z => z.up (s'.trans s2), fun _ _ z => z.up (s'.trans s2), fun _ _ z => z.up (s'.trans s2), fun _ _ z => z.up (s'.trans s2)⟩
  | false =>
    rw [if_neg Bool.false_ne_true] at q2 ⊢
    exact ⟨F2, δ', μ2, s'.trans s2, a2, q2⟩
end
/-! ### comprehensions -/
def wipeD (δ : Dl) : List Nat → Dl
  | [] => δ
  | v :: vs => (wipeD δ vs).set v none
theorem Fr.wipe {K : PySem.W.Frag} {F : Hp} {σ : L2.St} {δ : Dl} (h : Fr K F σ δ) : ∀ vs : List Nat, Fr K F (L2.wipe σ vs) (wipeD δ vs)
  | [] => h
  | v :: vs => (Fr.wipe h vs).unset v none
theorem takesF {X : Cx} {K : PySem.W.Frag} {F0 : Hp} {μ0 : Mu} {H0 : Hp} : Takes X (WofD K F0 μ0 H0 fun _ _ _ _ _ => False) := (takes0 (X := X)).imp fun c d σ H h => by
  obtain ⟨_, _, _, _, _, _, _, _, _, z⟩ := h; exact z
/-- the context of a comprehension's block -/
@[reducible] def Ct.blk (Γ : Ct) (scope : Scope) (s : Shared) (H : Hp) (C : Addr) (cl : List (Str × Addr)) (fp : List Addr) (F0 : Hp) (μ0 : Mu) (H0 : Hp) : Ct :=
  ⟨Γ.X.blk s H scope (compEnvC scope cl C Γ.X.env) fp, F0, μ0, H0, fun _ _ _ _ _ => False, false, takesF, PassesOwn.never⟩
/-- a target in a block: only the block's own slots are stored -/
def gv (Γ : Ct) (tg : Expr) (d : D) (vs : List Nat) (δ : Dl) (μ : Mu) (Q : Dl → Mu → Prop) : Prop := ∀ F σ H v, At Γ F δ μ σ H → Dp Γ.X.K F d v → wg Γ.X tg v σ H fun σ' H' => L2.wipe σ' vs = L2.wipe σ vs ∧ PostN Γ F Q σ' H'
def gvs (Γ : Ct) (tg : List Expr) (ds : List D) (vs : List Nat) (δ : Dl) (μ : Mu) (Q : Dl → Mu → Prop) : Prop := ∀ F σ H us, At Γ F δ μ σ H → Dps Γ.X.K F ds us → wgs Γ.X tg us σ H fun σ' H' => L2.wipe σ' vs = L2.wipe σ vs ∧ PostN Γ F Q σ' H'
theorem wipe_set_in {σ : L2.St} {j : Nat} {x : Option V} : ∀ {vs : List Nat}, j ∈ vs → L2.wipe (σ.set j x) vs = L2.wipe σ vs
  | v :: vs, h => by
    show (L2.wipe (σ.set j x) vs).set v none = (L2.wipe σ vs).set v none
    by_cases hj : j ∈ vs
    · rw [wipe_set_in hj]
    · have e : j = v := by rcases List.mem_cons.mp h with e | e; exact e; exact absurd e hj
      subst e
      have key : ∀ (us : List Nat), j ∉ us → L2.wipe (σ.set j x) us = (L2.wipe σ us).set j x := by
        intro us
        induction us with
        | nil => intro _; rfl
        | cons u us ih =>
          intro hu
          show (L2.wipe (σ.set j x) us).set u none = ((L2.wipe σ us).set u none).set j x
          rw [ih fun z => hu (List.mem_cons_of_mem _ z)]
          exact List.set_comm _ _ (fun z => hu (by rw [z]; exact List.mem_cons_self))
      rw [key vs hj, List.set_set]
section
variable {Γ : Ct} {δ : Dl} {μ : Mu} {vs : List Nat} {pos : Pos}
theorem gv_name {i : Nat} {x : Str} {d : D} {Q : Dl → Mu → Prop} (hN : Γ.X.N.Nodup) (hi : Γ.X.N[i]? = some x) (hv : i ∈ vs) (q : Q (δ.set i (some d)) μ) (hx : Loc Γ.X.env.scope x := by first | exact .inl rfl | exact .inr rfl)
    (hf : Γ.X.fn x = true ∨ Γ.X.env.scope.names.lookup x = some .local := by first | exact .inl rfl | exact .inr rfl | assumption) : gv Γ (.Name x pos) d vs δ μ Q := fun F σ H v a r =>
  wg_of (pg_name hN hi hx hf) ⟨wipe_set_in hv, F, _, μ, Same.refl F, a.fr_set i r, q⟩
theorem gvs_nil {Q : Dl → Mu → Prop} (q : Q δ μ) : gvs Γ [] [] vs δ μ Q := fun F σ H us a r => wgs_of pgs_nil ⟨r.unnil, rfl, F, δ, μ, Same.refl F, a, q⟩
theorem gvs_cons {e : Expr} {es : List Expr} {d : D} {ds : List D} {Q : Dl → Mu → Prop} (h : gv Γ e d vs δ μ fun δ' μ' => gvs Γ es ds vs δ' μ' Q) (hs : (assignEach (e :: es) Γ.X.env).map (·.2) = assign e Γ.X.env :: (assignEach es Γ.X.env).map (·.2) := by rfl) :
    gvs Γ (e :: es) (d :: ds) vs δ μ Q := fun F σ H us a r => by
  obtain ⟨v, ws', rfl, r1, r2⟩ := r.uncons
  refine wgs_of (pgs_cons pg_wg pgs_wgs hs) ⟨v, ws', rfl, wg_mono (h F σ H v a r1) fun σ1 H1 ⟨w1, F1, δ1, μ1, s1, a1, q1⟩ => ?_⟩
  exact wgs_mono (q1 F1 σ1 H1 ws' a1 (r2.mono s1)) fun σ2 H2 ⟨w2, z⟩ => ⟨w2.trans w1, z.up s1⟩
theorem gv_tup {es : List Expr} {k : Nat} {ds : List D} {n : Nat} {Q : Dl → Mu → Prop} (hc : Γ.X.calm = true) (h : ds.length = n ∧ gvs Γ es ds vs δ μ Q) (hn : (assignEach es Γ.X.env).length = n := by rfl) (hst : (assignEach es Γ.X.env).findIdx? (·.1) = none := by rfl) :
    gv Γ (.Tuple es k pos) (.tup ds) vs δ μ Q := fun F σ H v a r => by
  obtain ⟨p, us, rfl, hq, r⟩ := dpT r
  exact wg_of (pg_tup hc pgs_wgs hn hst) ⟨p, us, rfl, Same.sqT a.sx.sub hq, by rw [← r.length]; exact h.1, h.2 F σ H us a r⟩
end
/-- the tests of a comprehension: none, one -/
def eif (Γ : Ct) (ifs : List Expr) (δ : Dl) (μ : Mu) (Q : Bool → Mu → Prop) : Prop := match ifs with
  | [] => Q true μ
  | [c] => et Γ c δ μ Q
  | _ => False
def wif (X : Cx) : List Expr → TT
  | [] => tYes
  | [c] => wt X c
  | _ => fun _ _ _ => False
theorem pts_wif {X : Cx} : ∀ ifs : List Expr, PTs X ifs (wif X ifs)
  | [] => pts_nil
  | [c] => pts_one pt_wt
  | _ :: _ :: _ => ⟨fun _ _ _ _ _ _ h => h.elim⟩
theorem eif_run {Γ : Ct} {ifs : List Expr} {δ : Dl} {μ : Mu} {Q : Bool → Mu → Prop} (h : eif Γ ifs δ μ Q) {F σ H} (a : At Γ F δ μ σ H) {R : Bool → Hp → Prop} (k : ∀ b H', PostT Γ F δ σ Q b H' → R b H') : wif Γ.X ifs σ H R := by
  match ifs, h with
  | [], h => exact k true H ⟨F, μ, Same.refl F, a, h⟩
  | [c], h => exact wt_mono (h F σ H a) fun b H' z => k b H' z
section
variable {Γ : Ct} {elt tg iter : Expr} {ifs : List Expr} {scope : Scope} {own : List (Str × Nat)} {pos : Pos} {δ : Dl} {μ : Mu} {Q : D → Mu → Prop}
/-- a judgement in all blocks of a comprehension -/
def allB (Γ : Ct) (scope : Scope) (J : Ct → Prop) : Prop := ∀ (s : Shared) (H : Hp) (C : Addr) (cl : List (Str × Addr)) (fp : List Addr) (F0 : Hp) (μ0 : Mu) (H0 : Hp), J (Γ.blk scope s H C cl fp F0 μ0 H0)
/-- what a comprehension asks: I by the turn, the items made so far, the cells -/
def lcd (Γ : Ct) (elt tg iter : Expr) (ifs : List Expr) (scope : Scope) (vs : List Nat) (δ : Dl) (μ : Mu) (Q : List D → Mu → Prop) : Prop := eid Γ tg iter δ μ fun ds S μ1 => ds.length ≤ 1000000 ∧ ∃ I : Nat → List D → Mu → Prop, I 0 [] μ1 ∧ (∀ i acc μ', i ≤ ds.length → I i acc μ' → S μ' ∧ acc.length ≤ i) ∧
      (∀ i d acc μ', ds[i]? = some d → I i acc μ' → allB Γ scope fun Γb => gv Γb tg d vs (wipeD δ vs) μ' fun δ2 μ2 => allB Γ scope fun Γc => eif Γc ifs δ2 μ2 fun b μ3 =>
        if b = true then allB Γ scope fun Γd => ed Γd elt δ2 μ3 fun r μ4 => I (i + 1) (acc ++ [r]) μ4 else I (i + 1) acc μ3) ∧ ∀ acc μ', I ds.length acc μ' → Q acc μ'
/-- the readings of a block's parts, of all blocks at once -/
def wgB (X : Cx) (scope : Scope) (tg : Expr) : TG := fun v σ H Q => ∀ s H0 C cl fp, wg (X.blk s H0 scope (compEnvC scope cl C X.env) fp) tg v σ H Q
def wtB (X : Cx) (scope : Scope) (ifs : List Expr) : TT := fun σ H Q => ∀ s H0 C cl fp, wif (X.blk s H0 scope (compEnvC scope cl C X.env) fp) ifs σ H Q
def weB (X : Cx) (scope : Scope) (elt : Expr) : TE := fun σ H Q => ∀ s H0 C cl fp, we (X.blk s H0 scope (compEnvC scope cl C X.env) fp) elt σ H Q
theorem pg_wgB {X : Cx} (s H C cl fp) : PG (X.blk s H scope (compEnvC scope cl C X.env) fp) tg (wgB X scope tg) := ⟨fun pins s' σ H' v u Q I r h => h s H C cl fp pins s' u I r⟩
theorem pts_wtB {X : Cx} (s H C cl fp) : PTs (X.blk s H scope (compEnvC scope cl C X.env) fp) ifs (wtB X scope ifs) := ⟨fun pins s' σ H' Q I h => (pts_wif ifs).run pins s' σ H' Q I (h s H C cl fp)⟩
theorem pe_weB {X : Cx} (s H C cl fp) : PE (X.blk s H scope (compEnvC scope cl C X.env) fp) elt (weB X scope elt) := ⟨fun pins s' σ H' Q I h => h s H C cl fp pins s' I⟩
theorem wipe_wipe {σ : L2.St} : ∀ {vs : List Nat}, L2.wipe (L2.wipe σ vs) vs = L2.wipe σ vs := by
  have key : ∀ (vs us : List Nat) (σ : L2.St), (∀ u ∈ us, u ∈ vs) → L2.wipe (L2.wipe σ us) vs = L2.wipe σ vs := by
    intro vs us
    induction us with
    | nil => intro σ _; rfl
    | cons u us ih =>
      intro σ h
      show L2.wipe ((L2.wipe σ us).set u none) vs = _
      rw [wipe_set_in (h u List.mem_cons_self)]
      exact ih σ fun x hx => h x (List.mem_cons_of_mem _ hx)
  exact fun {vs} => key vs vs σ fun _ h => h
/-- the block's state: the new list stands apart -/
structure LcAt (Γ : Ct) (F1 : Hp) (δ : Dl) (σ : L2.St) (Dl : Addr) (acc : List D) (μ : Mu) (H F : Hp) : Prop where
  sm : Same F1 F
  at_ : At Γ F δ μ σ H
  ls : ∃ vs, H Dl = some (.lst vs) ∧ Dps Γ.X.K F acc vs
  f : F Dl = none
  m : Dl ∉ dom μ
theorem LcAt.step {F1 F F2 H H2 : Hp} {σ σb : L2.St} {δb : PD.Dl} {Da : Addr} {acc : List D} {μ μ2 : Mu} (L : LcAt Γ F1 δ σ Da acc μ H F) (st : Step F μ H F2 μ2 H2) (sx : Sx Γ.X.K F2 μ2 H2) : LcAt Γ F1 δ σ Da acc μ2 H2 F2 := by
  obtain ⟨vs, h1, h2⟩ := L.ls
  refine ⟨L.sm.trans st.ext, ⟨L.at_.st.trans st, sx, L.at_.fr.mono st.ext⟩, ⟨vs, st.keep _ _ h1 L.m, h2.mono st.ext⟩, ?_, fun hm => ?_⟩
  · cases e : F2 Da with
    | none => rfl
    | some o =>
      rcases st.new _ _ e L.f with q | q
      · rw [h1] at q; cases q
      · exact absurd q L.m
  · rcases st.cell _ hm with q | q
    · exact L.m q
    · rw [h1] at q; cases q
theorem lcd_run {vs : List Nat} {Q : List D → Mu → Prop} (h : lcd Γ elt tg iter ifs scope vs δ μ Q) (F σ H) (a : At Γ F δ μ σ H) :
    tLc (wi Γ.X tg iter) (wgB Γ.X scope tg) (wtB Γ.X scope ifs) (weB Γ.X scope elt) vs σ H (PostE Γ F δ σ fun d μ' => ∃ ds, d = .lst ds ∧ Q ds μ') := by
  refine wi_mono (h F σ H a) fun J H1 ⟨F1, ds, S, μ1, s1, a1, ok, hz, I, h0, hS, hb, hd⟩ => fun Da hD => ?_
  have h0D : Γ.H0 Da = none ∨ Da ∈ dom Γ.μ0 := a1.st.back hD
  refine ⟨fun i m H' => m = ds.length - i ∧ i ≤ ds.length ∧ ∃ F' acc μ', LcAt Γ F1 δ σ Da acc μ' H' F' ∧ I i acc μ', ⟨ds.length, by simp, Nat.zero_le _, F1, [], μ1, ⟨Same.refl _, a1.ext (same_upd hD), ⟨[], upd_same, Dps.nil⟩, a1.sx.sub.free hD, fun hm => ?_⟩, h0⟩, ?_⟩
  · obtain ⟨c, hc, e⟩ := List.mem_map.mp hm
    obtain ⟨u, hu⟩ := (a1.sx.cells c hc).there
    rw [e, hD] at hu; cases hu
  rintro i m H' ⟨rfl, hi, F', acc, μ', L, hI⟩
  obtain ⟨hSi, hacc⟩ := hS i acc μ' hi hI
  by_cases hlt : i < ds.length
  · have e : ds[i]? = some ds[i] := List.getElem?_eq_getElem hlt
    have ah := L.at_.here
    obtain ⟨g1, g2⟩ := ok.go (Γ.here L.at_.st) rfl i F' δ μ' σ H' L.sm ah hSi _ e
    refine .inr ⟨g1, fun H2 => ∃ F2 acc2 μ2, LcAt Γ F1 δ σ Da acc2 μ2 H2 F2 ∧ I (i + 1) acc2 μ2, fun H2 ⟨F2, acc2, μ2, L2', q2⟩ => ⟨ds.length - (i + 1), by omega, rfl, hlt, F2, acc2, μ2, L2', q2⟩, fun x H2 y => ?_⟩
    obtain ⟨F2, s2, a2, r2⟩ := g2 x H2 y
    have LL := L.step (σb := σ) (δb := δ) a2.st a2.sx
    intro sB HB C cl fp
    have aB : At (Γ.blk scope sB HB C cl fp F2 μ' H2) F2 (wipeD δ vs) μ' (L2.wipe σ vs) H2 := ⟨Step.refl _ _ _, LL.at_.sx, LL.at_.fr.wipe vs⟩
    refine wg_mono (hb i _ acc μ' e hI sB HB C cl fp F2 μ' H2 F2 (L2.wipe σ vs) H2 x aB r2) fun σ3 H3 ⟨w3, F3, δ3, μ3, s3, a3, q3⟩ => ⟨w3.trans wipe_wipe, ?_⟩
    have L3 := LL.step (σb := σ) (δb := δ) a3.st a3.sx
    intro sB2 HB2 C2 cl2 fp2
    have aC : At (Γ.blk scope sB2 HB2 C2 cl2 fp2 F3 μ3 H3) F3 δ3 μ3 σ3 H3 := ⟨Step.refl _ _ _, a3.sx, a3.fr⟩
    refine eif_run (q3 sB2 HB2 C2 cl2 fp2 F3 μ3 H3) aC fun b H4 ⟨F4, μ4, s4, a4, q4⟩ => ?_
    have L4 := L3.step (σb := σ) (δb := δ) a4.st a4.sx
    cases b with
    | true =>
      rw [if_pos rfl] at q4 ⊢
      intro sB5 HB5 C5 cl5 fp5
      have aE : At (Γ.blk scope sB5 HB5 C5 cl5 fp5 F4 μ4 H4) F4 δ3 μ4 σ3 H4 := ⟨Step.refl _ _ _, a4.sx, a4.fr⟩
      refine we_mono (q4 sB5 HB5 C5 cl5 fp5 F4 μ4 H4 F4 σ3 H4 aE) fun v H5 ⟨F5, r, μ5, s5, a5, r5, q5⟩ => ?_
      have L5 := L4.step (σb := σ) (δb := δ) a5.st a5.sx
      obtain ⟨ws, h1, h2⟩ := L5.ls
      refine ⟨ws, h1, ?_, F5, acc ++ [r], μ5, ⟨L5.sm, L5.at_.updFree h0D L5.f L5.m, ⟨ws ++ [v], upd_same, h2.append (Dps.cons r5 Dps.nil)⟩, L5.f, L5.m⟩, q5⟩
      rw [← h2.length, sizeLine_eq]
      omega
    | false =>
      rw [if_neg Bool.false_ne_true] at q4 ⊢
      exact ⟨F4, acc, μ4, L4, q4⟩
  · have e : i = ds.length := by omega
    subst e
    refine .inl ⟨ok.stop Γ rfl _ F' δ μ' σ H' L.sm L.at_ hSi (Nat.le_refl _), ?_⟩
    obtain ⟨ws, h1, h2⟩ := L.ls
    -- the list is known from now on
    have sF := same_upd (o := HO.lst ws) L.f
    have ah := L.at_
    have a2 : At Γ (upd F' Da (.lst ws)) δ μ' σ H' := by
      refine ⟨⟨ah.st.ext.trans sF, ah.st.keep, fun b u h hn => ?_, ah.st.cell⟩, ⟨fun b u h => ?_, fun c hc => ?_, ah.sx.nd, fun c hc => (ah.sx.cells c hc).mono sF rfl⟩, ah.fr.mono sF⟩
      · by_cases q : b = Da
        · rw [q]; exact h0D
        · rw [upd_ne q] at h; exact ah.st.new b u h hn
      · by_cases q : b = Da
        · rw [q, upd_same] at h; rw [q, ← h]; exact h1
        · rw [upd_ne q] at h; exact ah.sx.sub _ _ h
      · rw [upd_ne (fun e => L.m (by rw [← e]; exact List.mem_map.mpr ⟨c, hc, rfl⟩))]; exact ah.sx.off c hc
    exact ⟨_, .lst acc, μ', s1.trans (L.sm.trans sF), a2, dpl upd_same (h2.mono sF), acc, rfl, hd acc μ' hI⟩
theorem ed_lc {own : List (Str × Nat)} {Q : D → Mu → Prop} (own_ : List (Str × Nat)) (e : own = own_) (hc : Γ.X.calm = true) (hN : Γ.X.N.Nodup) (ok : BlkOk Γ.X.N Γ.X.env.scope scope own) (h : lcd Γ elt tg iter ifs scope (own.map (·.2)) δ μ fun ds μ' => Q (.lst ds) μ')
    (hs : ∀ x, foldedSetIterable iter Γ.X.env x = pure x := by intro _; rfl) : ed Γ (.ListComp elt [⟨tg, iter, ifs, 0⟩] scope pos) δ μ Q := fun F σ H a =>
  we_mono (we_of (pe_lc hc hN pi_wi ok pg_wgB pts_wtB pe_weB hs) (lcd_run h F σ H a)) fun v H' ⟨F', d, μ', s, a', r, ds, e, q⟩ => ⟨F', d, μ', s, a', r, by rw [e]; exact q⟩
/-- name = [..] -/
theorem sd_setLc {own : List (Str × Nat)} {E : En} {i : Nat} {y : Str} {py spos : Pos} (hc : Γ.X.calm = true) (hN : Γ.X.N.Nodup) (hy : Γ.X.N[i]? = some y) (hyl : Γ.X.env.scope.names.lookup y = some .local)
    (hsw : swapsWith (.ListComp elt [⟨tg, iter, ifs, 0⟩] scope pos) (some (.Name y py)) spos.line Γ.X.env = pure true) (ok : BlkOk Γ.X.N Γ.X.env.scope scope own)
    (h : lcd Γ elt tg iter ifs scope (own.map (·.2)) δ μ fun ds μ' => E.nx (δ.set i (some (.lst ds))) μ') (hs : ∀ x, foldedSetIterable iter Γ.X.env x = pure x := by intro _; rfl) :
    sd Γ (.Assign [.Name y py] (.ListComp elt [⟨tg, iter, ifs, 0⟩] scope pos) spos) δ μ E := fun F σ H a => by
  have key := lcd_run h F σ H a
  refine ws_of (ps_setLc (g := wgB Γ.X scope tg) (tt := wtB Γ.X scope ifs) (te := weB Γ.X scope elt) hc hN hy hyl hsw pi_wi ok pg_wgB pts_wtB pe_weB hs) ?_
  have mono : ∀ {Q Q' : VK}, (∀ v H', Q v H' → Q' v H') → tLc (wi Γ.X tg iter) (wgB Γ.X scope tg) (wtB Γ.X scope ifs) (weB Γ.X scope elt) (own.map (·.2)) σ H Q → tLc (wi Γ.X tg iter) (wgB Γ.X scope tg) (wtB Γ.X scope ifs) (weB Γ.X scope elt) (own.map (·.2)) σ H Q' := fun k h =>
    wi_mono h fun J H1 z Da hD => by
      obtain ⟨W, w0, t⟩ := z Da hD
      refine ⟨W, w0, fun i m H' w => ?_⟩
      rcases t i m H' w with ⟨q1, q2⟩ | q
      · exact .inl ⟨q1, k _ _ q2⟩
      · exact .inr q
  exact mono (fun v H' ⟨F', d, μ', s, a', r, ds, e, q⟩ => by subst e; exact ⟨F', _, μ', s, a'.fr_set i r, q⟩) key
end
end PD
/-! PD5: defs, calls, fields, methods, instances. -/
namespace PD
open PySem PySem.Spec PyProof.Rows L2
/-! ### room, in which no repr is under way -/
structure Room (k : Nat) (A : Around) : Prop where
  r : L2.Room k A
  gd : A.guards = some []
section
variable {j k : Nat} {A : Around}
theorem Room.mono (r : Room k A) (h : j ≤ k) : Room j A := ⟨r.r.mono h, r.gd⟩
theorem Room.deeper (r : Room (k + 1) A) (env : Env) : Room k (A.deeper env) := ⟨r.r.deeper env, r.gd⟩
theorem make_guards {C : Addr} {us : List Value} {kw : List (Str × Value)} : (A.under (.builtin "type.__call__" ⟨.ref C :: us, kw⟩)).guards = A.guards := by
  have e : guardIds.contains "type.__call__" = false := by decide +kernel
  have e1 : Code.isGuard (.builtin "type.__call__" ⟨.ref C :: us, kw⟩) = false := e
  have e2 : Code.guards (.builtin "type.__call__" ⟨.ref C :: us, kw⟩) = [] := by
    unfold Code.guards
    rw [e1, if_neg Bool.false_ne_true]
  show pushGuards (Code.guards (.builtin "type.__call__" ⟨.ref C :: us, kw⟩)) A.guards = A.guards
  rw [e2]
  rfl
theorem Room.make (r : Room (k + 1) A) (C : Addr) (us : List Value) (kw : List (Str × Value)) : Room k (A.under (.builtin "type.__call__" ⟨.ref C :: us, kw⟩)) := ⟨r.r.make C us kw, make_guards.trans r.gd⟩
theorem Room.units (r : Room k A) : A.units + 64 < cLine := r.r.units
theorem Room.hd (r : Room k A) : A.handled = none := r.r.hd
theorem Room.dp (r : Room k A) : A.depth + 3 * k + 5 < recursionLimit := r.r.dp
theorem Room.un (r : Room k A) : A.units + 16 * k + 200 < cLine := r.r.un
end
/-! ### what a def promises: b tells whether what it raises has None for its context -/
def CXB : Md → Program → World → CXT
  | some true, P, w => L2N.CX P w
  | some false, P, w => L2.CX P w
  | none, P, w => CXM P w
structure FnOk (P : Program) (w : World) (K : PySem.W.Frag) (mg : Str → Option Value) (base : Heap) (b : Md) (k : Nat) (f : Addr) (fd : FuncData) (ps : List Str) (sp : Sp) : Prop where
  len : ∀ vs H Q E, sp vs H Q E → vs.length = ps.length
  run : ∀ (A : Around) (outer : List Env) (s : Shared) (H : Hp) (args : Args) (us : List Value) (vs : List V) (Q : VK) (E : XK), Room k A → Env0 P w K mg base A outer s H → BindsTo s fd args (ps.zip us) → Vals vs us → sp vs H Q E →
    codeAny (model P w) A (.call (.ref f) args) (CR (CXB b P w) outer P w H s Q E) s
section
variable {P : Program} {w : World} {K : PySem.W.Frag} {mg : Str → Option Value} {base : Heap} {b : Md} {j k : Nat} {f : Addr} {fd : FuncData} {ps : List Str} {sp sp' : Sp}
theorem FnOk.imp (G : FnOk P w K mg base b k f fd ps sp) (h : ∀ vs H Q E, sp' vs H Q E → sp vs H Q E) : FnOk P w K mg base b k f fd ps sp' where
  len := fun vs H Q E q => G.len vs H Q E (h _ _ _ _ q)
  run := fun A outer s H args us vs Q E r e bd v q => G.run A outer s H args us vs Q E r e bd v (h _ _ _ _ q)
/-- a def's body, stepped through in its own context -/
theorem FunD.okG {x qual : Str} {params : Arguments} {body : List Stmt} {scope : Scope} {dvs : List V} {kws : List (Str × V)} {N : List Str} (F : FunD K x qual params body scope dvs kws f fd) (S : FnScope N ps scope) (len : ∀ vs H Q E, sp vs H Q E → vs.length = ps.length)
    (hb : ∀ (cdv : Value) (A : Around) (outer : List Env) (s : Shared) (H : Hp) (vs : List V) (Q : VK) (E : XK), Room k (A.deeper (envOfC qual scope s.heap.objs.size f cdv)) → sp vs H Q E →
      wss (cxOf (CXB b P w) P w K mg base N qual scope f cdv A outer s H E) body { nx := fun _ H' => Q .non H', rt := Q } (L2.start N vs) H) : FnOk P w K mg base b (k + 1) f fd ps sp := by
  obtain ⟨oc, od, dV, kV, doc, pm, an, cdv, ct, osl, rfl, look, code, _, _⟩ := F.ex
  refine ⟨len, fun A outer s H args us vs Q E room e0 bound rel want => ?_⟩
  have kin : K.In s.heap := e0.mod.kin.keeps fun c o e => (e0.bs c o e).1
  have kinds : ∀ y ∈ ps.zip us, scope.names.lookup y.1 = some .local ∨ (scope.names.lookup y.1 = some .cell ∧ ((cellsFrom (s.heap.objs.size + 1) scope.names []).lookup y.1).isSome = true) := by
    rintro ⟨y, u⟩ hy
    exact (S.par y (List.of_mem_zip hy).1).imp id fun q => ⟨q, PySem.W.cellsFrom_some _ _ _ (.inl q)⟩
  refine codeAny_call_function room.r.depth (kin _ _ look) rfl S.co S.gen rfl (PySem.W.codeRec_of kin code) (bound _ _ _ _ (wpAny_newFunctionEnv_cells S.kind kinds fun env ee s1 x => ?_))
  cases ee
  refine ⟨(e0.mod.nolimit.keeps fun c o e => (e0.bs c o e).1).keeps x.toInCall.keep, codeAny_func ?_⟩
  have go := hb cdv A outer s H vs Q E (room.deeper _) want [] s1 (inv_start S room.hd e0 (len _ _ _ _ want) rel x)
  refine wpAny_mono go (fun res s' z => ?_) fun _ _ z => z
  match res, z with
  | .ret u, ⟨v, _, H', J, rv, q⟩ => exact ⟨v, H', J.os, J.bare, J.base, J.hok, rv, q⟩
  | .next, ⟨_, H', J, q⟩ => exact ⟨V.non, H', J.os, J.bare, J.base, J.hok, rfl, q⟩
  | .brk, ⟨_, _, _, q⟩ => exact q.elim
  | .cont, ⟨_, _, _, q⟩ => exact q.elim
end
section
variable {X : Cx} {b : Md} {k : Nat} {f : Addr} {fd : FuncData} {ps : List Str} {sp : Sp} {dvs : List V} {ds : List Value} {E : L2.St → XK} {x : Str} {p pos : Pos} {e : Expr} {es : List Expr} {t : TA}
theorem run_fnSD {pins : List (Addr × Obj)} {σ : L2.St} {H : Hp} {s : Shared} {Q : VK} {us : List Value} {vs : List V} (G : FnOk X.prog X.w X.K X.mg X.base b k f fd ps sp) (hr : Room k X.A) (hb : Binds X.K fd ps ds) (hd : Vals dvs ds) (hx : PassesAt (CXB b X.prog X.w) X σ (E σ))
    (I : Inv X pins σ H s) (r : Vals vs us) (h : sp (vs ++ dvs) H Q (E σ)) : wpAny (model X.prog X.w) X.A (call (.ref f) us) (EP X pins σ Q) X.xe s := by
  have rr := r.append hd
  have hn : (us ++ ds).length = ps.length := rr.length.symm.trans (G.len _ _ _ _ h)
  refine wpAny_call (codeAny_mono (G.run X.A X.stack s H ⟨us, []⟩ _ _ Q (E σ) hr I.env0 (hb s us I.kIn hn) rr h) fun res s' z => ?_)
  match res, z with
  | .error er, z => exact hx pins H s er s' I z
  | .ok (.ret u), z => exact I.after z
theorem pe_callSD (G : FnOk X.prog X.w X.K X.mg X.base b k f fd ps sp) (hr : Room k X.A) (hg : Gl X x) (hm : X.mg x = some (.ref f)) (hk : PySem.W.keepIn X.K (.ref f) = true) (hb : Binds X.K fd ps ds) (hd : Vals dvs ds) (hx : ∀ σ, PassesAt (CXB b X.prog X.w) X σ (E σ))
    (ha : PA X (e :: es) t) (hdb : (x == ("__debug__" : Str)) = false := by decide) (he : starEach (e :: es) X.env = (false, eval e X.env) :: starEach es X.env := by rfl) (hpl : (backTo pos (starEach es X.env)).any (·.1) = false := by rfl) :
    PE X (.Call (.Name x p) (e :: es) [] pos) (tCallSD sp dvs E t) where
  run := fun pins s σ H Q I h => wpAny_Call_Name_kw (ld_glob I hg hm (PySem.W.callWith_K (h₀ := X.base) I.ok.mod.kin hk (thn (ha.run pos pins s σ H _ I h) fun us s1 ⟨vs, H1, I1, r, q⟩ => ⟨I1.kIn, run_fnSD G hr hb hd (hx σ) I1 r q⟩) he hpl) hdb)
end
theorem passAt {b : Md} {X : Cx} {W : WX} (tk : TkB b X W) (σ : L2.St) : PassesAt (CXB b X.prog X.w) X σ (WE W σ) := by
  match b, tk with
  | some true, tk => exact L2N.passAt tk σ
  | some false, tk => exact L2.passAt tk σ
  | none, tk => exact fun _ _ _ e s' I c => tk e s' (XM.of_call I (fun _ _ _ h => h) c)
/-- a def's promise over data: the arguments, the cells, the wanted end, the wanted exception -/
abbrev SpD := List D → Mu → (D → Mu → Prop) → (Value → List Str → List D → Mu → Prop) → Prop
def spOf (K : PySem.W.Frag) (n : Nat) (sp : SpD) : Sp := fun vs H Q E => ∃ F μ ds Qd Ed, Sx K F μ H ∧ Dps K F ds vs ∧ ds.length = n ∧ sp ds μ Qd Ed ∧ (∀ v H' F' μ' d, Step F μ H F' μ' H' → Sx K F' μ' H' → Dp K F' d v → Qd d μ' → Q v H') ∧
  (∀ cls dx H' F' μ' ns xs, Step F μ H F' μ' H' → Sx K F' μ' H' → XdOk K F' dx ns xs → Ed cls ns xs μ' → E cls dx H')
abbrev FnD (b : Md) (P : Program) (w : World) (K : PySem.W.Frag) (mg : Str → Option Value) (base : Heap) (k : Nat) (f : Addr) (fd : FuncData) (ps : List Str) (sp : SpD) : Prop := FnOk P w K mg base b k f fd ps (spOf K ps.length sp)
theorem FnD.imp {b : Md} {P : Program} {w : World} {K : PySem.W.Frag} {mg : Str → Option Value} {base : Heap} {k : Nat} {f : Addr} {fd : FuncData} {ps : List Str} {sp sp' : SpD} (F : FnD b P w K mg base k f fd ps sp) (h : ∀ ds μ Q E, sp' ds μ Q E → sp ds μ Q E) : FnD b P w K mg base k f fd ps sp' :=
  FnOk.imp F fun vs H Q E ⟨F', μ, ds, Qd, Ed, a, b, c, d, e⟩ => ⟨F', μ, ds, Qd, Ed, a, b, c, h _ _ _ _ d, e⟩
/-! ### a def's body -/
section
variable {P : Program} {w : World} {K : PySem.W.Frag} {mg : Str → Option Value} {base : Heap}
theorem tkB_of (b : Md) {N : List Str} {qual : Str} {scope : Scope} {f : Addr} {cdv : Value} {A : Around} {outer : List Env} {s : Shared} {H : Hp} {E : XK} : TkB b (cxOf (CXB b P w) P w K mg base N qual scope f cdv A outer s H E) (fun cls d _ H' => E cls d H') := by
  match b with
  | some true => exact L2N.takes_of (X := cxOf (L2N.CX P w) P w K mg base N qual scope f cdv A outer s H E) rfl rfl rfl rfl
  | some false => exact L2.takes_of (X := cxOf (L2.CX P w) P w K mg base N qual scope f cdv A outer s H E) rfl rfl rfl rfl
  | none => exact takesM_of (X := cxOf (CXM P w) P w K mg base N qual scope f cdv A outer s H E) rfl rfl rfl rfl
/-- the context of a def's body -/
@[reducible] def mkCt (b : Md) (P : Program) (w : World) (K : PySem.W.Frag) (mg : Str → Option Value) (base : Heap) (N : List Str) (qual : Str) (scope : Scope) (f : Addr) (cdv : Value) (A : Around) (outer : List Env) (s : Shared) (H : Hp) (F : Hp) (μ : Mu) (Ed : Value → List Str → List D → Mu → Prop) : Ct :=
  ⟨cxOf (CXB b P w) P w K mg base N qual scope f cdv A outer s H (fun cls dx H' => ∃ F' μ' ns xs, Step F μ H F' μ' H' ∧ Sx K F' μ' H' ∧ XdOk K F' dx ns xs ∧ Ed cls ns xs μ'), F, μ, H, fun cls ns xs _ μ' => Ed cls ns xs μ', b,
    (tkB_of b).imp fun c d σ H' h => by
      obtain ⟨F', μ', δ, ns, ds, s1, s2, _, x, z⟩ := h
      exact ⟨F', μ', ns, ds, s1, s2, x, z⟩,
    passes_of (X := cxOf (CXB b P w) P w K mg base N qual scope f cdv A outer s H (fun cls dx H' => ∃ F' μ' ns xs, Step F μ H F' μ' H' ∧ Sx K F' μ' H' ∧ XdOk K F' dx ns xs ∧ Ed cls ns xs μ')) rfl⟩
def startD (N : List Str) (ds : List D) : Dl := ds.map some ++ List.replicate (N.length - ds.length) none
theorem fr_start {F : Hp} {N : List Str} {ds : List D} {vs : List V} (r : Dps K F ds vs) : Fr K F (L2.start N vs) (startD N ds) := by
  refine ⟨?_, fun i d h => ?_⟩
  · unfold L2.start startD
    simp only [List.length_append, List.length_map, List.length_replicate, r.length]
  · unfold startD at h
    unfold L2.start
    by_cases hi : i < ds.length
    · rw [List.getElem?_append_left (by rw [List.length_map]; exact hi), List.getElem?_map] at h
      rw [List.getElem?_append_left (by rw [List.length_map, ← r.length]; exact hi), List.getElem?_map]
      cases e : ds[i]? with
      | none => rw [e] at h; cases h
      | some d' =>
        rw [e] at h
        have := Option.some.inj (Option.some.inj h)
        subst this
        obtain ⟨v, e2, r2⟩ := r.get e
        rw [e2]
        exact ⟨v, rfl, r2⟩
    · rw [List.getElem?_append_right (by rw [List.length_map]; omega), List.getElem?_replicate] at h
      split at h <;> cases h
/-- THE RULE of a def -/
theorem fnD_of {b : Md} {x qual : Str} {params : Arguments} {body : List Stmt} {scope : Scope} {dvs : List V} {kws : List (Str × V)} {f : Addr} {fd : FuncData} {N ps : List Str} {k : Nat} {sp : SpD} (F : FunD K x qual params body scope dvs kws f fd) (S : FnScope N ps scope)
    (hb : ∀ (cdv : Value) (A : Around) (outer : List Env) (s : Shared) (H F : Hp) (μ : Mu) (ds : List D) (Qd : D → Mu → Prop) (Ed : Value → List Str → List D → Mu → Prop), Room k (mkCt b P w K mg base N qual scope f cdv A outer s H F μ Ed).X.A → ds.length = ps.length → sp ds μ Qd Ed →
      sds (mkCt b P w K mg base N qual scope f cdv A outer s H F μ Ed) body (startD N ds) μ { nx := fun _ μ' => Qd .non μ', rt := Qd }) : FnD b P w K mg base (k + 1) f fd ps sp := by
  refine FunD.okG F S (fun vs H Q E h => ?_) (fun cdv A outer s H vs Q E hr h => ?_)
  · obtain ⟨F', μ, ds, Qd, Ed, _, r, l, _⟩ := h
    rw [← l, r.length]
  · obtain ⟨F', μ, ds, Qd, Ed, sx, r, l, q, kq, ke⟩ := h
    intro pins s' I
    -- the wish E is weaker than ours
    have z := hb cdv A outer s H F' μ ds Qd Ed hr l q F' (L2.start N vs) H ⟨Step.refl _ _ _, sx, fr_start r⟩ pins s'
    have I' : Inv (mkCt b P w K mg base N qual scope f cdv A outer s H F' μ Ed).X pins (L2.start N vs) H s' := I.wish _
    refine wpAny_mono (z I') (fun fl s2 hq => ?_) (fun e s2 he => ?_)
    · have hq' : SP (cxOf (CXB b P w) P w K mg base N qual scope f cdv A outer s H E) pins (En.to { nx := fun _ μ' => Qd .non μ', rt := Qd } (mkCt b P w K mg base N qual scope f cdv A outer s H F' μ Ed) F') fl s2 := by
        cases fl with
        | next => obtain ⟨σ', H', I2, q⟩ := hq; exact ⟨σ', H', I2.wish _, q⟩
        | brk => obtain ⟨σ', H', I2, q⟩ := hq; exact ⟨σ', H', I2.wish _, q⟩
        | cont => obtain ⟨σ', H', I2, q⟩ := hq; exact ⟨σ', H', I2.wish _, q⟩
        | ret u => obtain ⟨v, σ', H', I2, rr, q⟩ := hq; exact ⟨v, σ', H', I2.wish _, rr, q⟩
      refine SP_mono ⟨fun σ' H' hh => ?_, fun v H' hh => ?_, fun σ' H' hh => ?_, fun σ' H' hh => ?_⟩ hq'
      · obtain ⟨F2, δ', μ', _, a, q⟩ := hh
        exact kq .non H' F2 μ' .non a.st a.sx dpn q
      · obtain ⟨F2, d, μ', _, st, sx2, rd, q⟩ := hh
        exact kq v H' F2 μ' d st sx2 rd q
      · obtain ⟨_, _, _, _, _, q⟩ := hh; exact q.elim
      · obtain ⟨_, _, _, _, _, q⟩ := hh; exact q.elim
    · have cm : ∀ {e' : Value} {s3 : Shared}, CXB b P w outer H s (fun cls dx H' => ∃ F2 μ' ns xs, Step F' μ H F2 μ' H' ∧ Sx K F2 μ' H' ∧ XdOk K F2 dx ns xs ∧ Ed cls ns xs μ') e' s3 → CXB b P w outer H s E e' s3 := fun {e' s3} h => by
        rcases b with _ | _ | _ <;>
        (obtain ⟨a, B, H', cls, d, h1, h2, h3, h4, h5, h6, h7, h8⟩ := h
         obtain ⟨F2, μ', ns, xs, y1, y2, y3, y4⟩ := h8
         exact ⟨a, B, H', cls, d, h1, h2, h3, h4, h5, h6, h7, ke _ _ _ F2 μ' ns xs y1 y2 y3 y4⟩)
      exact wpAny_mono (show wpAny (model P w) (A.deeper (envOfC qual scope s.heap.objs.size f cdv)) (leaving (envOfC qual scope s.heap.objs.size f cdv) e) (fun _ s'' => _) (fun e' s'' => _) s2 from he) (fun _ s3 h => cm h) fun e' s3 h => cm h
end
/-! ### calls of defs -/
section
variable {Γ : Ct} {δ : Dl} {μ : Mu} {Q : D → Mu → Prop} {pos : Pos}
/-- what a call wants of a promise -/
theorem spOf_at {K : PySem.W.Frag} {n : Nat} {sp : SpD} {F H : Hp} {σ : L2.St} {vs : List V} {ds : List D} (hK : Γ.X.K = K) (a : At Γ F δ μ σ H) (r : Dps K F ds vs) (hl : ds.length = n) (h : sp ds μ Q fun cls ns xs μ' => Γ.W cls ns xs δ μ') :
    spOf K n sp vs H (PostE Γ F δ σ Q) (fun cls dx H' => WofD Γ.X.K Γ.F0 Γ.μ0 Γ.H0 Γ.W cls dx σ H') := by
  subst hK
  exact ⟨F, μ, ds, Q, _, a.sx, r, hl, h, fun v H' F' μ' d st sx rd q => ⟨F', d, μ', st.ext, ⟨a.st.trans st, sx, a.fr.mono st.ext⟩, rd, q⟩,
    fun cls dx H' F' μ' ns xs st sx x w => ⟨F', μ', δ, ns, xs, a.st.trans st, sx, a.fr.mono st.ext, x, w⟩⟩
variable {k : Nat} {f C : Addr} {fd : FuncData} {ps : List Str} {sp : SpD} {dvs : List V} {dds : List D} {dus : List Value} {x m : Str} {p apos : Pos} {e o : Expr} {es : List Expr}
/-- the defaults as data -/
def DfD (K : PySem.W.Frag) (dds : List D) (dvs : List V) : Prop := ∀ F, Dps K F dds dvs
theorem DfD.nil {K : PySem.W.Frag} : DfD K [] [] := fun _ => Dps.nil
theorem ed_call (G : FnD Γ.nn Γ.X.prog Γ.X.w Γ.X.K Γ.X.mg Γ.X.base k f fd ps sp) (hr : Room k Γ.X.A) (hm : Γ.X.mg x = some (.ref f)) (hk : PySem.W.keepIn Γ.X.K (.ref f) = true) (hb : Binds Γ.X.K fd ps dus) (hd : Vals dvs dus) (hdd : DfD Γ.X.K dds dvs)
    (h : ea Γ (e :: es) δ μ fun ds μ1 => (ds ++ dds).length = ps.length ∧ sp (ds ++ dds) μ1 Q fun cls ns xs μ' => Γ.W cls ns xs δ μ') (hg : Gl Γ.X x := by rfl)
    (hdb : (x == ("__debug__" : Str)) = false := by decide +kernel) (he : starEach (e :: es) Γ.X.env = (false, eval e Γ.X.env) :: starEach es Γ.X.env := by rfl) (hpl : (backTo pos (starEach es Γ.X.env)).any (·.1) = false := by rfl) :
    ed Γ (.Call (.Name x p) (e :: es) [] pos) δ μ Q := fun F σ H a =>
  we_of (pe_callSD (E := fun σ cls dx H' => WofD Γ.X.K Γ.F0 Γ.μ0 Γ.H0 Γ.W cls dx σ H') G hr hg hm hk hb hd (fun σ => passAt Γ.tk σ) pa_wa hdb he hpl) (wa_mono (h F σ H a) fun vs H1 ⟨F1, ds, μ1, s1, a1, r1, hl, q⟩ => by
    obtain ⟨F2, μ2, ds2, Qd, Ed, b1, b2, b3, b4, b5, b6⟩ := spOf_at (K := Γ.X.K) (n := ps.length) (sp := sp) rfl a1 (r1.append (hdd F1)) hl q
    exact ⟨F2, μ2, ds2, Qd, Ed, b1, b2, b3, b4, fun v H' F' μ' d c1 c2 c3 c4 => (b5 v H' F' μ' d c1 c2 c3 c4).up s1, b6⟩)
/-! ### fields -/
/-- an instance's field over data: known or owned -/
def FldD (C : Addr) (f : Str) (x : D) (μ : Mu) (d : D) : Prop := match x with
  | .obj C' ns ds => C' = C ∧ (ns.zip ds).lookup f = some d
  | .ref p => ∃ dx ns ds, (p, Cell.ins C dx ns ds) ∈ μ ∧ (ns.zip ds).lookup f = some d
  | _ => False
theorem lookup_zip {K : PySem.W.Frag} {F : Hp} {f : Str} {d : D} : ∀ {ds : List D} {gs : List (Str × V)}, Dps K F ds (gs.map (·.2)) → ((gs.map (·.1)).zip ds).lookup f = some d → ∃ v, gs.lookup f = some v ∧ Dp K F d v
  | [], gs, r, h => by
    have e := r.unnil
    cases gs with
    | nil => cases h
    | cons g gs => cases e
  | d' :: ds, gs, r, h => by
    obtain ⟨v, ws, e, r1, r2⟩ := r.uncons
    cases gs with
    | nil => cases e
    | cons g gs =>
      obtain ⟨n, v'⟩ := g
      have e1 : v' = v := (List.cons.inj e).1
      have e2 : gs.map (·.2) = ws := (List.cons.inj e).2
      subst e1
      rw [← e2] at r2
      have h' : (match f == n with | true => some d' | false => ((gs.map (·.1)).zip ds).lookup f) = some d := h
      show ∃ v, (match f == n with | true => some v' | false => gs.lookup f) = some v ∧ Dp K F d v
      cases q : f == n with
      | true => rw [q] at h'; rw [← Option.some.inj h']; exact ⟨v', rfl, r1⟩
      | false => rw [q] at h'; exact lookup_zip r2 h'
/-- a class's constant through an instance, a method: what is known of the instance -/
def InsD (C : Addr) (x : D) (μ : Mu) (m : Str) : Prop := match x with
  | .obj C' ns _ => C' = C ∧ m ∉ ns
  | .ref p => ∃ dx ns ds, (p, Cell.ins C dx ns ds) ∈ μ ∧ m ∉ ns
  | _ => False
/-! ### a field of an owned instance is stored -/
end
end PD
/-! PD6: what the top has written, by names; packages of calls; the end of a law. -/
namespace PD
open PySem PySem.Spec PyProof.Rows L2
/-- what is known of the top -/
structure TX (fa : List He.Fa) (fn : List He.DefD) (ex : PySem.W.Frag → Bool) (K : PySem.W.Frag) (mg : Str → Option Value) : Prop where
  glo : ∀ x, He.Fa.glo x ∈ fa → mg x = some (.ref (He.ga K x))
  free : ∀ x, He.Fa.free x ∈ fa → mg x = none
  fact : ∀ f ∈ fa, f.ok K = true
  defs : ∀ d ∈ fn, ∃ fd, FunD K d.name d.qual d.params d.body d.scope (d.dvs K) (d.kws K) (He.fAd K d.at_) fd
  more : ex K = true
section
variable {fa : List He.Fa} {fn : List He.DefD} {ex : PySem.W.Frag → Bool} {K : PySem.W.Frag} {mg : Str → Option Value}
theorem TX.g (T : TX fa fn ex K mg) (i : Nat) {x : Str} (h : fa[i]? = some (.glo x) := by rfl) : mg x = some (.ref (He.ga K x)) := T.glo x (List.mem_of_getElem? h)
theorem TX.f (T : TX fa fn ex K mg) (i : Nat) {x : Str} (h : fa[i]? = some (.free x) := by rfl) : mg x = none := T.free x (List.mem_of_getElem? h)
theorem TX.d (T : TX fa fn ex K mg) (i : Nat) {d : He.DefD} (h : fn[i]? = some d := by rfl) : ∃ fd, FunD K d.name d.qual d.params d.body d.scope (d.dvs K) (d.kws K) (He.fAd K d.at_) fd := T.defs d (List.mem_of_getElem? h)
theorem tx_of {ts : List He.Tab} {tf : List He.Defn} {w : World} {h h' : Heap} (X : K.In h) (G : h.Ns mainGlobals mg) (c : He.SaysX fa fn ts tf ex w h' K) : TX fa fn ex K mg where
  glo := fun x hx => He.glo_ok X G (c.t.d.facts hx)
  free := fun x hx => He.free_ok X G (c.t.d.facts hx)
  fact := fun f hf => c.t.d.facts hf
  defs := fun d hd => c.t.d.defs hd
  more := c.more
end
/-- a def that may be called: dds the defaults that fill up -/
structure CallX (b : Md) (P : Program) (w : World) (K : PySem.W.Frag) (mg : Str → Option Value) (base : Heap) (k : Nat) (f : Addr) (n : Nat) (dds : List D) (sp : SpD) : Prop where
  ex : ∃ (fd : FuncData) (ps : List Str) (dvs : List V) (dus : List Value), ps.length = n ∧ Binds K fd ps dus ∧ Vals dvs dus ∧ DfD K dds dvs ∧ FnD b P w K mg base k f fd ps sp
  kp : PySem.W.keepIn K (.ref f) = true
/-- a def that lets out only what has None for its context -/
structure CallD (P : Program) (w : World) (K : PySem.W.Frag) (mg : Str → Option Value) (base : Heap) (k : Nat) (f : Addr) (n : Nat) (dds : List D) (sp : SpD) : Prop where
  at_ : ∀ b, CallX b P w K mg base k f n dds sp
/-- a def that may let out any exception -/
structure CallF (P : Program) (w : World) (K : PySem.W.Frag) (mg : Str → Option Value) (base : Heap) (k : Nat) (f : Addr) (n : Nat) (dds : List D) (sp : SpD) : Prop where
  x : CallX false P w K mg base k f n dds sp
theorem CallF.at_ {P : Program} {w : World} {K : PySem.W.Frag} {mg : Str → Option Value} {base : Heap} {k : Nat} {f : Addr} {n : Nat} {dds : List D} {sp : SpD} (c : CallF P w K mg base k f n dds sp) (b : Md) (h : b = false := by rfl) : CallX b P w K mg base k f n dds sp := by
  subst h; exact c.x
section
variable {P : Program} {w : World} {K : PySem.W.Frag} {mg : Str → Option Value} {base : Heap} {k : Nat} {f : Addr} {sp : SpD} {x qual : Str} {params : Arguments} {body : List Stmt} {scope : Scope} {kws : List (Str × V)} {fd : FuncData} {ps : List Str}
theorem CallD.mk0 (F : FunD K x qual params body scope [] kws f fd)
    (h : ∀ (kV doc pm : Value) (an : Option Addr) (cdv ct : Value) (us : List Value), us.length = ps.length → bindArgs (PySem.W.fnOf x qual params body scope .none kV doc pm an cdv ct) ⟨us, []⟩ = pure (ps.zip us)) (G : ∀ {b : Md}, FnD b P w K mg base k f fd ps sp) : CallD P w K mg base k f ps.length [] sp :=
  ⟨fun b => ⟨⟨fd, ps, [], [], rfl, F.bindsN h, .nil, DfD.nil, G⟩, F.kp⟩⟩
theorem CallF.mk0 (F : FunD K x qual params body scope [] kws f fd)
    (h : ∀ (kV doc pm : Value) (an : Option Addr) (cdv ct : Value) (us : List Value), us.length = ps.length → bindArgs (PySem.W.fnOf x qual params body scope .none kV doc pm an cdv ct) ⟨us, []⟩ = pure (ps.zip us)) (G : FnD false P w K mg base k f fd ps sp) : CallF P w K mg base k f ps.length [] sp :=
  ⟨⟨⟨fd, ps, [], [], rfl, F.bindsN h, .nil, DfD.nil, G⟩, F.kp⟩⟩
end
section
variable {Γ : Ct} {δ : Dl} {μ : Mu} {Q : D → Mu → Prop} {pos : Pos} {k j n : Nat} {f C : Addr} {sp : SpD} {dds : List D} {x m : Str} {p apos : Pos} {e o : Expr} {es : List Expr}
theorem ed_callC (Cd : CallX Γ.nn Γ.X.prog Γ.X.w Γ.X.K Γ.X.mg Γ.X.base k f n dds sp) (hr : Room j Γ.X.A) (hkj : k ≤ j) (hm : Γ.X.mg x = some (.ref f)) (h : ea Γ (e :: es) δ μ fun ds μ1 => (ds ++ dds).length = n ∧ sp (ds ++ dds) μ1 Q fun cls ns xs μ' => Γ.W cls ns xs δ μ') (hg : Gl Γ.X x := by rfl)
    (hdb : (x == ("__debug__" : Str)) = false := by decide +kernel) (he : starEach (e :: es) Γ.X.env = (false, eval e Γ.X.env) :: starEach es Γ.X.env := by rfl) (hpl : (backTo pos (starEach es Γ.X.env)).any (·.1) = false := by rfl) :
    ed Γ (.Call (.Name x p) (e :: es) [] pos) δ μ Q := by
  obtain ⟨fd, ps, dvs, dus, hl, b, v, d, G⟩ := Cd.ex
  subst hl
  exact ed_call G (hr.mono hkj) hm Cd.kp b v d h hg hdb he hpl
end
/-! ### the end of a law -/
/-- law's promise: a list of at most 63 ints of at most 1048576 bits each is handed in, True comes out -/
def spLaw : SpD := fun ds μ Q _ => ∃ ns : List Int, ds = [.rl (ns.map .int)] ∧ μ = [] ∧ ns.length ≤ 63 ∧ (∀ z ∈ ns, Builtin.Int.intBits z ≤ 1048576) ∧ ∀ μ', Q (.bl true) μ'
/-- from law's promise to its call by the claim's caller -/
theorem law_go {P : Program} {w : World} {K : PySem.W.Frag} {mg mb : Str → Option Value} {k : Nat} {fa a : Addr} {fd : FuncData} {x : Str} {sp : Sp} {s₁ : Shared} {vs : List Value} {ns : List Int}
    (KX : K.In s₁.heap) (hns : s₁.heap.Ns mainGlobals mg) (hb : s₁.heap.Ns builtinsNs mb) (hbb : ∀ x : Str, x ≠ "__name__" → mb x = bootBuiltins x) (hlim : s₁.heap.NoLimit) (hg : s₁.gens = #[]) (ha : s₁.heap.get? a = some { cls := .type "list", data := .seq vs.toArray })
    (hi : IntsAre vs ns) (hl : ns.length ≤ sizeLine) (hr : Room k callerA) (F : ∀ base : Heap, K.In base → base.Ns mainGlobals mg → FnOk P w K mg base false k fa fd [x] sp) (hbind : ∀ (s : Shared) (u : Value), BindsTo s fd ⟨[u], []⟩ [(x, u)])
    (hsp : ∀ H : Hp, SqL K H a (ns.map V.int) → sp [.ref a] H (fun v _ => v = .bl true) fun _ _ _ => False) :
    codeAny (model P w) callerA (.call (.ref fa) ⟨[.ref a], []⟩) (fun r s' => r = .ok (.ret (.bool true)) ∧ OldK s₁.heap s'.heap ∧ s'.os = s₁.os ∧ AllBare s'.gens) s₁ := by
  have rel := vals_ints hi
  let O : Obj := { cls := .type "list", data := .seq vs.toArray }
  have z1 : ((ns.map V.int).length : Nat) ≤ sizeLine := by rw [List.length_map]; exact hl
  -- the abstract heap: the script alone, unless it is one of the module's own things
  have go : ∀ H : Hp, (∀ c, H c = none ∨ (c = a ∧ K.lookup a = none ∧ H c = some (.frz O (.lst (ns.map V.int))))) → SqL K H a (ns.map V.int) → codeAny (model P w) callerA (.call (.ref fa) ⟨[.ref a], []⟩) (fun r s' => r = .ok (.ret (.bool true)) ∧ OldK s₁.heap s'.heap ∧ s'.os = s₁.os ∧ AllBare s'.gens) s₁ := fun H only seq => by
    have ok : HOk P w H s₁.heap := fun c u e => by
      rcases only c with q | ⟨rfl, _, q⟩
      · rw [q] at e; cases e
      · rw [q] at e; cases e
        exact ⟨ha, z1, vs, _, rel, ha⟩
    have hid : ∀ {c : Addr} {o : Obj}, s₁.heap.get? c = some o → (c = a → K.lookup a = none → False) → (hidT s₁.heap H).get? c = some o := fun {c o} e n => hidT_get e (by
      rcases only c with q | ⟨q1, q2, _⟩
      · exact q
      · exact (n q1 q2).elim)
    have noDict : ∀ {c : Addr} {m : Str → Option Value}, s₁.heap.Ns c m → (hidT s₁.heap H).Ns c m := fun {c m} ⟨o, es, ep, e, d, r⟩ => ⟨o, es, ep, hid e (fun q _ => by
      subst q
      rw [ha] at e
      cases e
      cases (show Data.seq vs.toArray _ = Data.dict es ep from d)), d, r⟩
    have kin : K.In (hidT s₁.heap H) := fun c o e => hid (KX c o e) fun q n => by
      subst q
      rw [n] at e; cases e
    obtain ⟨mc, l1, l2⟩ := hlim
    have e0 : Env0 P w K mg (hidT s₁.heap H) callerA [] s₁ H := ⟨rfl, ⟨kin, noDict hns, ⟨mb, noDict hb, hbb⟩, mc, noDict l1, l2⟩, fun c o e => of_hidT e, Nat.le_of_eq (hidT_size _ _), trivial, fun c hc => (List.not_mem_nil hc).elim, ok, .of_eq hg⟩
    refine codeAny_mono ((F _ kin (noDict hns)).run callerA [] s₁ H ⟨[.ref a], []⟩ [.ref a] [.ref a] _ _ hr e0 (hbind s₁ (.ref a)) (.cons rfl .nil) (hsp H seq)) fun r s' z => ?_
    match r, z with
    | .error e, z =>
      obtain ⟨_, _, _, _, _, _, _, _, _, _, _, _, z⟩ := z
      exact z.elim
    | .ok (.ret u), z =>
      obtain ⟨v, H', os, bare, un, ok', rv, q⟩ := z
      obtain rfl : v = V.bl true := q
      obtain rfl : u = Value.bool true := rv
      refine ⟨rfl, OldK.of_keep fun c o e => ?_, os, bare⟩
      rcases only c with q | ⟨_, _, q⟩
      · exact un.keep c o e q (fun n => (List.not_mem_nil (show c ∈ ([] : List Addr) from n)).elim) (fun n => nomatch n)
      · have e1 := (ok c _ q).1
        have e2 := (ok' c _ (un.frzs c O _ q)).1
        rw [e] at e1
        cases e1
        exact e2
  cases hk : K.lookup a with
  | some o =>
    have e := KX a o hk
    rw [ha] at e
    cases e
    exact go (fun _ => none) (fun _ => .inl rfl) (.inr ⟨O, vs.toArray, _, hk, rfl, rfl, rfl, by rw [List.size_toArray, hi.length]; exact hl, by simpa using rel⟩)
  | none =>
    refine go (fun c => if c = a then some (.frz O (.lst (ns.map V.int))) else none) (fun c => ?_) (.inl (.inr ⟨O, if_pos rfl⟩))
    by_cases q : c = a
    · exact .inr ⟨q, hk, if_pos q⟩
    · exact .inl (if_neg q)
theorem walk_pd {l : PySem.W.OpenLaw} {n k : Nat} {q : Program} {loose : List Str} {XP : (Str → Option Value) → Heap → Prop} {YP : World → Heap → Prop} {d : DefRec} {x : Str}
    (hn : l.most = some 63) (hdf : d.params.defaults = []) (hr : L2.Room k callerA)
    (F : ∀ (w : World) (mg : Str → Option Value) (fa : Addr) (h : Heap), YP w h → h.Ns mainGlobals mg → mg d.name = some (.ref fa) →
      ∃ (K : PySem.W.Frag) (fd : FuncData), K.In h ∧ (∀ (s : Shared) (u : Value), BindsTo s fd ⟨[u], []⟩ [(x, u)]) ∧
        ∀ base : Heap, K.In base → base.Ns mainGlobals mg → FnD false l.prog w K mg base k fa fd [x] spLaw) :
    PySem.W.WalkO q loose XP YP l.row.toRowW d [] (fun f vs => PySem.call f vs) := by
  refine Att.attach_callB hn hdf fun w s₀ s₁ mg mb fa o pm cd doc a vs ns G Y ho hd hcd hmg hobj hints hlen hbits hg => ?_
  obtain ⟨K, fd, KX, hb, hF⟩ := F w mg fa _ Y G.T.g hmg
  refine law_go (K := K) (k := k) (x := x) KX G.T.g G.T.b G.T.builtins G.T.nolimit hg hobj hints (Nat.le_trans hlen (by decide)) ⟨hr, rfl⟩ hF hb (fun H hS => ?_)
  refine ⟨H, [], [.rl (ns.map .int)], fun d _ => d = .bl true, fun _ _ _ _ => False, ⟨Same.refl H, fun c hc => (nomatch hc), List.nodup_nil, fun c hc => (nomatch hc)⟩, Dps.cons (by rw [Dp]; exact ⟨a, ns.map V.int, rfl, hS, Dps.of_ints⟩) Dps.nil, rfl, ⟨ns, rfl, rfl, hlen, hbits, fun _ => rfl⟩, fun v H' F' μ' d _ _ rd e => ?_, fun _ _ _ _ _ _ _ _ _ _ z => z⟩
  rw [e] at rd
  exact dpB rd
end PD
/-! PD7: == seen through owned lists; small facts about data. -/
namespace PD
open PySem PySem.Spec PyProof.Rows L2
/-- an owned list seen as its items -/
inductive Vw (μ : Mu) : D → D → Prop where
  | same (x : D) : Vw μ x x
  | own {p : Addr} {xs : List D} (h : (p, Cell.lst xs) ∈ μ) : Vw μ (.ref p) (.lst xs)
section
variable {Γ : Ct} {δ : Dl} {μ : Mu} {Q : D → Mu → Prop} {x y x' y' : D}
theorem Vw.dp {F H : Hp} {σ : L2.St} {v : V} (a : At Γ F δ μ σ H) (h : Vw μ x x') (hx : x'.ok = true) (r : Dp Γ.X.K F x v) : L2.Dp Γ.X.K H v x'.py := by
  cases h with
  | same => exact D.ok_dp a.sx.sub hx r
  | own hm =>
    rw [dpR r]
    obtain ⟨vs, h1, h2⟩ := a.sx.cells _ hm
    rw [D.ok] at hx
    rw [D.py]
    exact .lst (.inl (.inl h1)) (D.oks_dp a.sx.sub hx h2)
theorem opd_eqV (hu : Γ.X.A.units + 64 < cLine) (h1 : Vw μ x x') (h2 : Vw μ y y') (hx : x'.ok = true) (hy : y'.ok = true) (dx : x'.py.depth ≤ 64) (dy : y'.py.depth ≤ 64) (q : Q (.bl (eqD x' y')) μ) : opd Γ (compareOp .Eq) x y δ μ Q := opd_of (op_eqD hu) fun F σ H vx vy a r1 r2 =>
  ⟨x'.py, y'.py, h1.dp a hx r1, h2.dp a hy r2, by unfold SeqAt.shaped; rw [D.ok_lay hx, decide_eq_true dx]; rfl, by unfold SeqAt.shaped; rw [D.ok_lay hy, decide_eq_true dy]; rfl, PostE.here a dpb q⟩
theorem opd_neV (hu : Γ.X.A.units + 64 < cLine) (h1 : Vw μ x x') (h2 : Vw μ y y') (hx : x'.ok = true) (hy : y'.ok = true) (dx : x'.py.depth ≤ 64) (dy : y'.py.depth ≤ 64) (q : Q (.bl (!eqD x' y')) μ) : opd Γ (compareOp .NotEq) x y δ μ Q := opd_of (op_neD hu) fun F σ H vx vy a r1 r2 =>
  ⟨x'.py, y'.py, h1.dp a hx r1, h2.dp a hy r2, by unfold SeqAt.shaped; rw [D.ok_lay hx, decide_eq_true dx]; rfl, by unfold SeqAt.shaped; rw [D.ok_lay hy, decide_eq_true dy]; rfl, PostE.here a dpb q⟩
end
theorem oks_ints : ∀ (l : List Int), D.oks (l.map .int) = true
  | [] => by rw [List.map_nil, D.oks]
  | z :: l => by rw [List.map_cons, D.oks, D.ok, oks_ints l]; rfl
theorem depthAll_ints : ∀ (l : List Int), PyData.depthAll (D.pys (l.map .int)) ≤ 1
  | [] => by rw [List.map_nil, D.pys, PyData.depthAll]; omega
  | z :: l => by
    have := depthAll_ints l
    rw [List.map_cons, D.pys, D.py, PyData.depthAll, PyData.depth]; omega
theorem depth_ints (l : List Int) : (D.lst (l.map .int)).py.depth ≤ 64 := by
  have := depthAll_ints l
  rw [D.py, PyData.depth]; omega
theorem ok_ints (l : List Int) : (D.lst (l.map .int)).ok = true := by rw [D.ok]; exact oks_ints l
theorem eqD_nil (xs : List D) : eqD (.lst xs) (.lst []) = xs.isEmpty := by
  unfold eqD
  cases xs with
  | nil => rfl
  | cons x xs =>
    show PyData.eqv (.list (D.pys (x :: xs))) (.list (D.pys [])) = false
    rw [D.pys, D.pys, PyData.eqv, PyData.eqvAll]
theorem nil_or_snoc {α : Type} (l : List α) : l = [] ∨ ∃ l0 z, l = l0 ++ [z] := by
  rcases List.eq_nil_or_concat l with h | ⟨l0, z, h⟩
  · exact .inl h
  · exact .inr ⟨l0, z, by rw [h, List.concat_eq_append]⟩
theorem exB {b : Bool} {P : Bool → Prop} (h : P b) : ∃ c, D.bl b = D.bl c ∧ P c := ⟨b, rfl, h⟩
theorem exI {b : Int} {P : Int → Prop} (h : P b) : ∃ c, D.int b = D.int c ∧ P c := ⟨b, rfl, h⟩
theorem small_lt {n : Nat} (h : n < 100000) : n < sizeLine := Nat.lt_of_lt_of_le h (by decide)
theorem small_le {n : Nat} (h : n ≤ 100000) : n ≤ sizeLine := Nat.le_trans h (by decide)
/-- a word between a statement and the rest -/
theorem sds_cut {Γ : Ct} {δ : Dl} {μ : Mu} {E : En} {st : Stmt} {rest : List Stmt} (M : Dl → Mu → Prop) (h : sd Γ st δ μ { E with nx := M }) (k : ∀ δ' μ', M δ' μ' → sds Γ rest δ' μ' E) : sds Γ (st :: rest) δ μ E :=
  sds_cons (sd_mono h ⟨k, fun _ _ z => z, fun _ _ z => z, fun _ _ z => z⟩)
theorem atI_last' {α : Type} (xs : List α) (v : α) : atI (xs ++ [v]) (-1) = some v := atI_last xs v
theorem map_concat_int (l : List Int) (z : Int) : (l ++ [z]).map D.int = l.map D.int ++ [.int z] := by rw [List.map_append]; rfl
end PD
namespace PD
open PySem PySem.Spec PyProof.Rows L2
/-- a def's own name: its place, its kind -/
structure Nm (N : List Str) (sc : Scope) (i : Nat) (x : Str) : Prop where
  at_ : N[i]? = some x
  loc : sc.names.lookup x = some .local ∨ sc.names.lookup x = some .cell
  dbg : (x == ("__debug__" : Str)) = false
  cls : (x == ("__classdict__" : Str)) = false
section
variable {Γ Γ0 : Ct} {N : List Str} {sc scope : Scope} {i : Nat} {x : Str} {d : D} {δ : Dl} {μ : Mu} {Q : D → Mu → Prop} {R : Dl → Mu → Prop} {pos : Pos} {E : En} {s : Shared} {H : Hp} {C : Addr} {cl : List (Str × Addr)} {fp : List Addr} {F0 : Hp} {μ0 : Mu} {H0 : Hp} {vs : List Nat}
theorem Nm.vis (n : Nm N sc i x) (e : Γ.X.env.scope = sc) : Vis Γ.X.env.scope x := by
  rw [e]; rcases n.loc with h | h
  · exact .inl h
  · exact .inr (.inl h)
theorem Nm.locl (n : Nm N sc i x) (e : Γ.X.env.scope = sc) : Loc Γ.X.env.scope x := by rw [e]; exact n.loc
theorem ed_nm (n : Nm N sc i x) (q : δ[i]? = some (some d)) (h : Q d μ) (e : Γ.X.env.scope = sc := by rfl) (e2 : Γ.X.N = N := by rfl) : ed Γ (.Name x pos) δ μ Q := ed_name (by rw [e2]; exact n.at_) q h (n.vis e) n.dbg n.cls
/-- in a comprehension's block -/
theorem ed_nmB (n : Nm N sc i x) (q : δ[i]? = some (some d)) (h : Q d μ) (v : ((relS scope sc).names.lookup x = some .local ∨ (relS scope sc).names.lookup x = some .cell) ∨ (relS scope sc).names.lookup x = some .free := by decide +kernel) (e : Γ0.X.env.scope = sc := by rfl) (e2 : Γ0.X.N = N := by rfl) :
    ed (Γ0.blk scope s H C cl fp F0 μ0 H0) (.Name x pos) δ μ Q := by
  refine ed_name (i := i) ?_ q h ?_ n.dbg n.cls
  · show Γ0.X.N[i]? = some x
    rw [e2]; exact n.at_
  · have e3 : (Γ0.blk scope s H C cl fp F0 μ0 H0).X.env.scope = relS scope sc := by rw [← e]; rfl
    rw [e3]
    rcases v with (v | v) | v
    · exact .inl v
    · exact .inr (.inl v)
    · exact .inr (.inr v)
theorem gd_nm (n : Nm N sc i x) (hN : N.Nodup) (h : R (δ.set i (some d)) μ) (hf : Γ.X.fn x = true := by rfl) (e : Γ.X.env.scope = sc := by rfl) (e2 : Γ.X.N = N := by rfl) : gd Γ (.Name x pos) d δ μ R := gd_name (by rw [e2]; exact hN) (by rw [e2]; exact n.at_) h (n.locl e) (.inl hf)
theorem sd_nm {e' : Expr} {pos' : Pos} (n : Nm N sc i x) (hN : N.Nodup) (h : ed Γ e' δ μ fun d μ' => E.nx (δ.set i (some d)) μ') (hs : swapsWith e' (some (.Name x pos')) pos.line Γ.X.env = pure false := by rfl) (hf : Γ.X.fn x = true := by rfl) (e : Γ.X.env.scope = sc := by rfl) (e2 : Γ.X.N = N := by rfl) :
    sd Γ (.Assign [.Name x pos'] e' pos) δ μ E := sd_set (by rw [e2]; exact hN) (by rw [e2]; exact n.at_) h hs (n.locl e) (.inl hf)
theorem gl_of (h : sc.names.lookup x = some .globalImplicit) (e : Γ.X.env.scope = sc := by rfl) : Gl Γ.X x := by
  show Γ.X.env.scope.names.lookup x = _
  rw [e]; exact h
theorem glB_of (h : (relS scope sc).names.lookup x = some .globalImplicit := by decide +kernel) (e : Γ0.X.env.scope = sc := by rfl) : Gl (Γ0.blk scope s H C cl fp F0 μ0 H0).X x := by
  have e3 : (Γ0.blk scope s H C cl fp F0 μ0 H0).X.env.scope = relS scope sc := by rw [← e]; rfl
  show (Γ0.blk scope s H C cl fp F0 μ0 H0).X.env.scope.names.lookup x = _
  rw [e3]; exact h
end
/-- a name that a comprehension's block stores -/
structure NmB (N : List Str) (i : Nat) (x : Str) : Prop where
  at_ : N[i]? = some x
  dbg : (x == ("__debug__" : Str)) = false
  cls : (x == ("__classdict__" : Str)) = false
section
variable {Γ Γ0 : Ct} {N : List Str} {sc scope : Scope} {i : Nat} {x : Str} {d : D} {δ : Dl} {μ : Mu} {Q : D → Mu → Prop} {R : Dl → Mu → Prop} {pos : Pos} {s : Shared} {H : Hp} {C : Addr} {cl : List (Str × Addr)} {fp : List Addr} {F0 : Hp} {μ0 : Mu} {H0 : Hp} {vs : List Nat}
theorem ed_nmC (n : NmB N i x) (q : δ[i]? = some (some d)) (h : Q d μ) (v : ((relS scope sc).names.lookup x = some .local ∨ (relS scope sc).names.lookup x = some .cell) ∨ (relS scope sc).names.lookup x = some .free := by decide +kernel) (e : Γ0.X.env.scope = sc := by rfl) (e2 : Γ0.X.N = N := by rfl) :
    ed (Γ0.blk scope s H C cl fp F0 μ0 H0) (.Name x pos) δ μ Q := by
  refine ed_name (i := i) ?_ q h ?_ n.dbg n.cls
  · show Γ0.X.N[i]? = some x
    rw [e2]; exact n.at_
  · have e3 : (Γ0.blk scope s H C cl fp F0 μ0 H0).X.env.scope = relS scope sc := by rw [← e]; rfl
    rw [e3]
    rcases v with (v | v) | v
    · exact .inl v
    · exact .inr (.inl v)
    · exact .inr (.inr v)
theorem gv_nmC (n : NmB N i x) (hN : N.Nodup) (hv : i ∈ vs) (h : R (δ.set i (some d)) μ) (v : (relS scope sc).names.lookup x = some .local ∨ ((relS scope sc).names.lookup x = some .cell ∧ scope.names.lookup x = some .cell) := by decide +kernel) (e : Γ0.X.env.scope = sc := by rfl) (e2 : Γ0.X.N = N := by rfl) :
    gv (Γ0.blk scope s H C cl fp F0 μ0 H0) (.Name x pos) d vs δ μ R := by
  have e3 : (Γ0.blk scope s H C cl fp F0 μ0 H0).X.env.scope = relS scope sc := by rw [← e]; rfl
  refine gv_name (i := i) (by show Γ0.X.N.Nodup; rw [e2]; exact hN) (by show Γ0.X.N[i]? = some x; rw [e2]; exact n.at_) hv h ?_ ?_
  · rw [e3]; rcases v with v | v
    · exact .inl v
    · exact .inr v.1
  · rw [e3]; rcases v with v | v
    · exact .inr v
    · refine .inl ?_
      show (scope.names.lookup x == some .cell) = true
      rw [v.2]; rfl
end
end PD
namespace PD
open PySem
theorem bb_len : bootBuiltins "len" = some (.builtin "len") := by decide +kernel
theorem bb_abs : bootBuiltins "abs" = some (.builtin "abs") := by decide +kernel
theorem bb_isinstance : bootBuiltins "isinstance" = some (.builtin "isinstance") := by decide +kernel
theorem bb_repr : bootBuiltins "repr" = some (.builtin "repr") := by decide +kernel
theorem bb_int : bootBuiltins "int" = some (.type "int") := by decide +kernel
theorem bb_range : bootBuiltins "range" = some (.type "range") := by decide +kernel
end PD
/-! PD8: xs[::-1]; parallel stores. -/
namespace PD
open PySem PySem.Spec PyProof.Rows L2
section
variable {Γ : Ct} {δ : Dl} {μ : Mu} {Q : D → Mu → Prop} {e : Expr} {pos : Pos}
/-- e[::-1], owned -/
theorem ed_revO {k : Nat} {p1 p2 p3 : Pos} (h : ed Γ e δ μ fun x μ' => ∃ xs, x = .lst xs ∧ ∀ p, Q (.ref p) ((p, .lst xs.reverse) :: μ')) : ed Γ (.Subscript e (.Slice none none (some (.UnaryOp .USub (.Constant (.int 1) k p1) p2)) p3) pos) δ μ Q := fun F σ H a =>
  we_of (pe_revL pe_we) (we_mono (h F σ H a) fun v H1 ⟨F1, x, μ1, s1, a1, r1, xs, e1, q⟩ => by
    subst e1
    obtain ⟨p0, vs, rfl, h1, h2⟩ := dpL r1
    exact ⟨p0, vs, rfl, .inl (.inl (a1.sx.sub _ _ h1)), fun p hp => PostE.up s1 (PostE.own (c := .lst xs.reverse) a1 hp ⟨_, upd_same, h2.reverse⟩ (q p))⟩)
/-- e[::-1], known -/
theorem ed_rev {k : Nat} {p1 p2 p3 : Pos} (h : ed Γ e δ μ fun x μ' => ∃ xs, x = .lst xs ∧ Q (.lst xs.reverse) μ') : ed Γ (.Subscript e (.Slice none none (some (.UnaryOp .USub (.Constant (.int 1) k p1) p2)) p3) pos) δ μ Q := fun F σ H a =>
  we_of (pe_revL pe_we) (we_mono (h F σ H a) fun v H1 ⟨F1, x, μ1, s1, a1, r1, xs, e1, q⟩ => by
    subst e1
    obtain ⟨p0, vs, rfl, h1, h2⟩ := dpL r1
    exact ⟨p0, vs, rfl, .inl (.inl (a1.sx.sub _ _ h1)), fun p hp => PostE.up s1 (PostE.new a1 hp (dpl upd_same (h2.reverse.mono (same_upd (a1.sx.sub.free hp)))) q)⟩)
end
/-! ### slices of anything -/
def rSlC (K : PySem.W.Frag) : V → Option Int → Option Int → Hp → VK → Prop := fun x lo hi H Q => rSlL K x lo hi H Q ∨ (L2.rSlA K x lo hi H Q ∨ rSlS x lo hi H Q)
theorem sl_c {X : Cx} : SlR X (rSlC X.K) := sl_list.or (sl_tupA.or sl_str)
theorem rSlA_mono (K : PySem.W.Frag) : ∀ x l u H Q Q', (∀ v H', Q v H' → Q' v H') → L2.rSlA K x l u H Q → L2.rSlA K x l u H Q' := fun x l u H Q Q' k h => by
  obtain ⟨a, xs, e, h1, h2, h3⟩ := h
  exact ⟨a, xs, e, h1, fun z => k _ _ (h2 z), fun z p hp => k _ _ (h3 z p hp)⟩
theorem rSlC_mono (K : PySem.W.Frag) : ∀ x l u H Q Q', (∀ v H', Q v H' → Q' v H') → rSlC K x l u H Q → rSlC K x l u H Q' := fun x l u H Q Q' k h => by
  rcases h with h | h | h
  · exact .inl (rSlL_mono K _ _ _ _ _ _ k h)
  · exact .inr (.inl (rSlA_mono K _ _ _ _ _ _ k h))
  · exact .inr (.inr (rSlS_mono _ _ _ _ _ _ k h))
def cutD (xs : List D) (lo hi : Option Int) : List D := (xs.drop (HT.sIx xs.length 0 lo)).take (HT.sIx xs.length xs.length hi - HT.sIx xs.length 0 lo)
section
variable {Γ : Ct} {δ : Dl} {μ : Mu} {Q : D → Mu → Prop} {e : Expr} {pos : Pos}
def slc (Γ : Ct) (x : D) (lo hi : Option Int) (δ : Dl) (μ : Mu) (Q : D → Mu → Prop) : Prop := sld Γ (rSlC Γ.X.K) x lo hi δ μ Q
theorem ed_slc {lo hi : Option Expr} {p2 : Pos} (h : ed Γ e δ μ fun x μ1 => eo Γ lo δ μ1 fun l μ2 => eo Γ hi δ μ2 fun u μ3 => slc Γ x l u δ μ3 Q) : ed Γ (.Subscript e (.Slice lo hi none p2) pos) δ μ Q := ed_slice sl_c (rSlC_mono _) h
theorem slc_lst {xs : List D} {lo hi : Option Int} (q : Q (.lst (cutD xs lo hi)) μ) : slc Γ (.lst xs) lo hi δ μ Q := fun F σ H vx a r => .inl (sld_lst q F σ H vx a r)
theorem slc_rl {xs : List D} {lo hi : Option Int} (q : Q (.lst (cutD xs lo hi)) μ) : slc Γ (.rl xs) lo hi δ μ Q := fun F σ H vx a r => .inl (sld_rl q F σ H vx a r)
theorem slc_str {z : Str} {lo hi : Option Int} (hz : z.length ≤ sizeLine) (q : Q (.str (cutS z lo hi)) μ) : slc Γ (.str z) lo hi δ μ Q := fun F σ H vx a r => .inr (.inr (sld_str hz q F σ H vx a r))
theorem slc_tup {xs : List D} {lo hi : Option Int} (q : Q (.tup (cutD xs lo hi)) μ) : slc Γ (.tup xs) lo hi δ μ Q := fun F σ H vx a r1 => .inr (.inl (by
  obtain ⟨p1, vs, rfl, h1, h2⟩ := dpT r1
  refine ⟨p1, vs, rfl, Same.sqT a.sx.sub h1, fun z => ?_, fun z p hp => ?_⟩
  · refine PostE.here a (d := .tup (cutD xs lo hi)) (dpt h1 ?_) q
    rw [← h2.length] at z
    unfold cutD
    rw [z.1, z.2, List.drop_zero, Nat.sub_zero, List.take_length]
    exact h2
  · have sF := same_upd (o := HO.tup (cutV vs lo hi)) (a.sx.sub.free hp)
    refine PostE.new a hp (dpt (.inl (.inl upd_same)) (Dps.mono sF ?_)) q
    unfold cutV cutD
    rw [← h2.length]
    exact (h2.drop _).take _))
/-- tuples put together -/
theorem opd_catT {xs ys : List D} (hl : xs.length + ys.length ≤ sizeLine) (q : Q (.tup (xs ++ ys)) μ) : opd Γ (binaryOp .Add) (.tup xs) (.tup ys) δ μ Q := opd_of op_catA fun F σ H vx vy a r1 r2 => by
  obtain ⟨p1, vs, rfl, h1, h2⟩ := dpT r1
  obtain ⟨p2, ws, rfl, h3, h4⟩ := dpT r2
  refine ⟨p1, p2, vs, ws, rfl, rfl, Same.sqT a.sx.sub h1, Same.sqT a.sx.sub h3, by rw [← h2.length, ← h4.length]; exact hl, fun z => ?_, fun z1 z2 => ?_, fun z1 z2 p hp => ?_⟩
  · subst z
    have e : xs = [] := List.length_eq_zero_iff.mp (by rw [h2.length]; rfl)
    subst e
    exact PostE.here a (dpt h3 h4) q
  · subst z2
    have e : ys = [] := List.length_eq_zero_iff.mp (by rw [h4.length]; rfl)
    subst e
    rw [List.append_nil] at q
    exact PostE.here a (dpt h1 h2) q
  · have sF := same_upd (o := HO.tup (vs ++ ws)) (a.sx.sub.free hp)
    exact PostE.new a hp (dpt (.inl (.inl upd_same)) ((h2.append h4).mono sF)) q
end
/-! ### x, y = e1, e2 -/
end PD
namespace PD
open PySem PySem.Spec PyProof.Rows L2
section
variable {Γ : Ct} {elt tg iter : Expr} {ifs : List Expr} {scope : Scope} {vs : List Nat} {δ : Dl} {μ : Mu} {Q : List D → Mu → Prop}
theorem take_fm {ds : List D} {i : Nat} {d : D} (f : D → Bool) (g : D → D) (h : ds[i]? = some d) : ((ds.take (i + 1)).filter f).map g = ((ds.take i).filter f).map g ++ (if f d = true then [g d] else []) := by
  rw [List.take_add_one, h]
  show (((ds.take i) ++ [d]).filter f).map g = _
  rw [List.filter_append, List.map_append]
  congr 1
  by_cases q : f d = true
  · rw [if_pos q, List.filter_cons, if_pos q]; rfl
  · rw [if_neg q, List.filter_cons, if_neg q]; rfl
/-- a comprehension that makes of each item g of it, where f holds; the cells stay -/
theorem lcd_fm (f : D → Bool) (g : D → D) (h : eid Γ tg iter δ μ fun ds S μ1 => ds.length ≤ 1000000 ∧ S μ1 ∧
      (∀ d ∈ ds, allB Γ scope fun Γb => gv Γb tg d vs (wipeD δ vs) μ1 fun δ2 μ2 => allB Γ scope fun Γc => eif Γc ifs δ2 μ2 fun b μ3 => b = f d ∧ μ3 = μ1 ∧ (f d = true → allB Γ scope fun Γd => ed Γd elt δ2 μ1 fun r μ4 => r = g d ∧ μ4 = μ1)) ∧ Q ((ds.filter f).map g) μ1) :
    lcd Γ elt tg iter ifs scope vs δ μ Q := fun F σ H a => wi_mono (h F σ H a) fun J H1 ⟨F1, ds, S, μ1, s1, a1, ok, hz, hS, hb, hq⟩ => by
  refine ⟨F1, ds, S, μ1, s1, a1, ok, hz, fun i acc μ' => μ' = μ1 ∧ acc = ((ds.take i).filter f).map g, ⟨rfl, rfl⟩, ?_, ?_, ?_⟩
  · rintro i acc μ' hi ⟨rfl, rfl⟩
    refine ⟨hS, ?_⟩
    rw [List.length_map]
    have h1 := List.length_filter_le f (ds.take i)
    have h2 := List.length_take_le i ds
    omega
  · rintro i d acc μ' hd ⟨rfl, rfl⟩
    intro s H C cl fp F0 μ0 H0 F2 σ2 H2 v a2 r2
    refine wg_mono (hb d (List.mem_of_getElem? hd) s H C cl fp F0 μ0 H0 F2 σ2 H2 v a2 r2) fun σ3 H3 ⟨w3, F3, δ3, μ3, s3, a3, q3⟩ => ⟨w3, F3, δ3, μ3, s3, a3, ?_⟩
    intro s' H' C' cl' fp' F0' μ0' H0'
    have key : ∀ {b : Bool} {μ4 : Mu}, (b = f d ∧ μ4 = μ' ∧ (f d = true → allB Γ scope fun Γd => ed Γd elt δ3 μ' fun r μ5 => r = g d ∧ μ5 = μ')) →
        if b = true then allB Γ scope fun Γd => ed Γd elt δ3 μ4 fun r μ5 => μ5 = μ' ∧ ((ds.take i).filter f).map g ++ [r] = ((ds.take (i + 1)).filter f).map g else μ4 = μ' ∧ ((ds.take i).filter f).map g = ((ds.take (i + 1)).filter f).map g := by
      rintro b μ4 ⟨rfl, rfl, hk⟩
      rw [take_fm f g hd]
      by_cases q : f d = true
      · rw [if_pos q, if_pos q]
        intro s6 H6 C6 cl6 fp6 F6 μ6 H06
        exact ed_mono (hk q s6 H6 C6 cl6 fp6 F6 μ6 H06) fun r μ5 ⟨e1, e2⟩ => ⟨e2, by rw [e1]⟩
      · rw [if_neg q, if_neg q]
        exact ⟨rfl, (List.append_nil _).symm⟩
    have z := q3 s' H' C' cl' fp' F0' μ0' H0'
    match ifs, z with
    | [], z => exact key z
    | [c], z => exact et_mono z fun b μ4 hk => key hk
  · rintro acc μ' ⟨rfl, rfl⟩
    rw [List.take_length]; exact hq
end
end PD
namespace PD
open PySem
section
variable {Γ : Ct} {δ : Dl} {μ : Mu} {Q : Option Int → Mu → Prop} {e : Expr}
theorem eo_none (q : Q none μ) : eo Γ none δ μ Q := q
theorem eo_some (h : ed Γ e δ μ fun d μ' => ∃ i, d = .int i ∧ Q (some i) μ') : eo Γ (some e) δ μ Q := h
end
end PD
namespace PD
open PySem PySem.Spec PyProof.Rows L2
/-! more rules -/
section
variable {Γ : Ct} {e c : Expr} {δ : Dl} {μ : Mu} {Q : Bool → Mu → Prop}
theorem eif_nil (q : Q true μ) : eif Γ [] δ μ Q := q
theorem eif_one (h : et Γ c δ μ Q) : eif Γ [c] δ μ Q := h
end
/-! ### lists of numbers -/
def intOf : D → Int | .int z => z | _ => 0
theorem cut_ints (xs : List Int) (lo hi : Option Int) : ∃ ys : List Int, PD.cutD (xs.map .int) lo hi = ys.map .int ∧ ys.length ≤ xs.length ∧ ∀ y ∈ ys, y ∈ xs := by
  refine ⟨(xs.drop (HT.sIx xs.length 0 lo)).take (HT.sIx xs.length xs.length hi - HT.sIx xs.length 0 lo), ?_, ?_, fun y hy => List.mem_of_mem_drop (List.mem_of_mem_take hy)⟩
  · unfold PD.cutD; rw [List.length_map, ← List.map_drop, ← List.map_take]
  · rw [List.length_take, List.length_drop]; omega
theorem fm_ints (f : D → Bool) (g : D → D) (g' : Int → Int) (hg : ∀ z, g (.int z) = .int (g' z)) (xs : List Int) : (((xs.map D.int).filter f).map g) = ((xs.filter (fun z => f (.int z))).map g').map .int := by
  induction xs with
  | nil => rfl
  | cons x xs ih =>
    rw [List.map_cons, List.filter_cons, List.filter_cons]
    cases h : f (.int x)
    · exact ih
    · show g (.int x) :: _ = D.int (g' x) :: _
      rw [hg, ih]
end PD
/-! PD10: instances that are made; isinstance; membership; constants. -/
namespace PD
open PySem PySem.Spec PyProof.Rows L2
/-! ### an instance that is made -/
section
variable {Γ : Ct} {δ : Dl} {μ : Mu} {Q : D → Mu → Prop} {pos : Pos} {k j n : Nat} {f C : Addr} {sp : SpD} {dds : List D} {x m : Str} {p apos : Pos} {e o : Expr} {es : List Expr}
theorem PostE.frz {F H : Hp} {σ : L2.St} {q dx : Addr} {v : V} (hv : v = .ref q) (h : ∃ F' μ', Same F F' ∧ At Γ F' δ μ' σ H ∧ ∃ ns vs μa μb, μ' = μa ++ (q, Cell.ins C dx ns vs) :: μb ∧ Q (.obj C ns vs) (μa ++ μb)) : PostE Γ F δ σ Q v H := by
  obtain ⟨F', μ', s', a, ns, vs, μa, μb, rfl, q1⟩ := h
  subst hv
  obtain ⟨gs, h1, h2, h3⟩ := a.sx.cells (q, .ins C dx ns vs) mem_mid
  have sF : Same F' (upd F' q (.ins C dx gs)) := same_upd (a.sx.off (q, .ins C dx ns vs) mem_mid)
  exact ⟨_, .obj C ns vs, _, s'.trans sF, a.freeze h1, by rw [Dp]; exact ⟨q, dx, gs, rfl, upd_same, h2, h3.mono sF⟩, q1⟩
end
/-! ### constants of the top -/
theorem allK {K : PySem.W.Frag} {fs : List (PySem.W.Frag → Bool)} (h : (fs.all fun f => f K) = true) (i : Nat) {f : PySem.W.Frag → Bool} (e : fs[i]? = some f := by rfl) : f K = true := List.all_eq_true.mp h f (List.mem_of_getElem? e)
section
variable {Γ : Ct} {δ : Dl} {μ : Mu} {Q : D → Mu → Prop} {pos : Pos} {x : Str} {a : Addr}
/-- a name of the top that is an object: a class, a def, a constant -/
theorem ed_gref (hm : Γ.X.mg x = some (.ref a)) (q : Q (.ref a) μ) (hg : Gl Γ.X x := by rfl) (hd : (x == ("__debug__" : Str)) = false := by decide +kernel) : ed Γ (.Name x pos) δ μ Q := ed_glob hm (v := .ref a) rfl (fun _ => dpr) q hg hd
/-- a built-in type as a value -/
theorem ed_ty {n : String} (hm : Γ.X.mg x = none) (hv : bootBuiltins x = some (.type n)) (q : Q (.ty n) μ) (hg : Gl Γ.X x := by rfl) (hn : x ≠ "__name__" := by decide +kernel) (hd : (x == ("__debug__" : Str)) = false := by decide +kernel) : ed Γ (.Name x pos) δ μ Q := fun F σ H h =>
  we_of (pe_bltn (v := .ty n) hg hm hv rfl hn hd) (PostE.here (v := .ty n) h (by rw [Dp]) q)
end
/-! ### isinstance -/
/-- an own class whose instances tell their class -/
structure ClsT (K : PySem.W.Frag) (C : Addr) : Prop where
  c : Cls K C
  ha : PySem.W.findIn K (.ref C) "__class__" = some (some (.builtin "object.__class__"))
  hn : PySem.W.specialIn K (.builtin "object.__class__") "__get__" = some (some (.builtin "getset_descriptor.__get__"))
  htk : PySem.W.takesIn K (.builtin "object.__class__") = some true
  hm : PySem.W.mroIn K C (.type "object") = some true
/-- the class of a datum -/
inductive TyQ (K : PySem.W.Frag) (μ : Mu) : D → Value → Prop where
  | non : TyQ K μ .non (.type "NoneType")
  | bl (b) : TyQ K μ (.bl b) (.type "bool")
  | int (i) : TyQ K μ (.int i) (.type "int")
  | str (x) : TyQ K μ (.str x) (.type "str")
  | lst (xs) : TyQ K μ (.lst xs) (.type "list")
  | rl (xs) : TyQ K μ (.rl xs) (.type "list")
  | tup (xs) : TyQ K μ (.tup xs) (.type "tuple")
  | dK (ks xs) : TyQ K μ (.dK ks xs) (.type "dict")
  | own {p xs} (h : (p, Cell.lst xs) ∈ μ) : TyQ K μ (.ref p) (.type "list")
  | obj {C} (c : ClsT K C) (ns xs) : TyQ K μ (.obj C ns xs) (.ref C)
  | ins {C p dx ns xs} (c : ClsT K C) (h : (p, Cell.ins C dx ns xs) ∈ μ) : TyQ K μ (.ref p) (.ref C)
section
variable {Γ : Ct} {δ : Dl} {μ : Mu} {Q : D → Mu → Prop}
theorem tyQ_run {F H : Hp} {σ : L2.St} {d : D} {v : V} {t : Value} (a : At Γ F δ μ σ H) (r : Dp Γ.X.K F d v) (h : TyQ Γ.X.K μ d t) : TyX Γ.X.K H v t := by
  cases h with
  | non => rw [Dp] at r; subst r; exact .base .non
  | bl b => rw [Dp] at r; subst r; exact .base (.bl b)
  | int i => rw [Dp] at r; subst r; exact .base (.int i)
  | str x => rw [Dp] at r; subst r; exact .base (.str x)
  | lst xs =>
    obtain ⟨p, vs, rfl, h1, _⟩ := dpL r
    exact .base (.lst (a.sx.sub _ _ h1))
  | rl xs =>
    obtain ⟨p, vs, rfl, h1, _⟩ := dpRl r
    rcases h1 with (h1 | ⟨o, h1⟩) | ⟨o, its, n, e, c, _⟩
    · exact .base (.lst (a.sx.sub _ _ h1))
    · exact .base (.frz (a.sx.sub _ _ h1))
    · exact .kList e c
  | tup xs =>
    obtain ⟨p, vs, rfl, h1, _⟩ := dpT r
    rcases h1 with (h1 | ⟨o, h1⟩) | ⟨o, its, n, e, c, _⟩
    · exact .base (.tup (a.sx.sub _ _ h1))
    · exact .fTuple (a.sx.sub _ _ h1)
    · exact .kTuple e c
  | dK ks xs =>
    rw [Dp] at r
    obtain ⟨p, kvs, rfl, h1, _⟩ := r
    exact .base (.dK (a.sx.sub _ _ h1))
  | own h =>
    rw [dpR r]
    obtain ⟨vs, h1, _⟩ := a.sx.cells _ h
    exact .base (.lst h1)
  | obj c ns xs =>
    rw [Dp] at r
    obtain ⟨p, dx, gs, rfl, h1, _⟩ := r
    exact .base (.ins (a.sx.sub _ _ h1) c.c c.ha c.hn c.htk c.hm)
  | ins c h =>
    rw [dpR r]
    obtain ⟨gs, h1, _⟩ := a.sx.cells _ h
    exact .base (.ins h1 c.c c.ha c.hn c.htk c.hm)
/-- a class as a datum -/
def clsD : D → Option Value
  | .ty n => some (.type n)
  | .ref C => some (.ref C)
  | _ => none
theorem clsD_run {K : PySem.W.Frag} {F : Hp} {d : D} {v : V} {u : Value} (h : clsD d = some u) (r : Dp K F d v) : ClsV v u := by
  cases d <;> cases h
  · rw [Dp] at r; subst r; exact .ty _
  · rw [dpR r]; exact .own _
theorem clsDs_run {K : PySem.W.Frag} {F : Hp} : ∀ {ds : List D} {vs : List V} {us : List Value}, ds.map clsD = us.map some → Dps K F ds vs → Paired ClsV vs us
  | [], vs, [], _, r => by rw [r.unnil]; exact .nil
  | [], _, _ :: _, h, _ => by cases h
  | _ :: _, _, [], h, _ => by cases h
  | d :: ds, vs, u :: us, h, r => by
    obtain ⟨v, ws, rfl, r1, r2⟩ := r.uncons
    injection h with h1 h2
    exact .cons (clsD_run h1 r1) (clsDs_run h2 r2)
theorem cld_isi {x c : D} {t u : Value} {b : Bool} (ht : TyQ Γ.X.K μ x t) (hc : clsD c = some u) (hk : PySem.W.kitOne Γ.X.K t u = some b) (q : Q (.bl b) μ) : cld Γ (.builtin "isinstance") [x, c] δ μ Q := cld_of call_isi fun F σ H vs a r0 => by
  obtain ⟨v, ws, rfl, r1, r2⟩ := r0.uncons
  obtain ⟨w, zs, rfl, r3, r4⟩ := r2.uncons
  rw [r4.unnil]
  exact ⟨v, w, t, u, b, rfl, clsD_run hc r3, tyQ_run a r1 ht, hk, PostE.here a dpb q⟩
/-- the tuple of classes, wherever it stands -/
def rIsiS (K : PySem.W.Frag) : List V → Hp → VK → Prop := fun xs H Q => ∃ (x : V) (tp : Addr) (cs : List V) (t : Value) (us : List Value) (b : Bool), xs = [x, .ref tp] ∧ SqT K H tp cs ∧ Paired ClsV cs us ∧ TyX K H x t ∧ PySem.W.kitAny K t us = some b ∧ Q (.bl b) H
theorem call_isiS {X : Cx} : CallR X (.builtin "isinstance") (rIsiS X.K) := fun pins s σ H xs us Q I r h => by
  obtain ⟨x, tp, cs, t, ws, b, rfl, hT, k, ty, e, q⟩ := h
  obtain ⟨u1, u2, rfl, r1, r2⟩ := vals2 r
  obtain rfl : u2 = Value.ref tp := r2
  obtain ⟨P, Z, p, hx⟩ := kit_of I r1 ty
  obtain ⟨its, rv, ⟨⟨oc, od, dt, sl⟩, h1, h2, n, h3⟩, _⟩ := I.tuple hT
  obtain rfl := ClsV.all k rv
  dsimp only at h2 h3
  subst h2 h3
  exact PySem.W.kia_tup Z I.kIn p h1 e hx fun tk => ⟨.bl b, H, I.tok tk, rfl, q⟩
theorem cld_isiT {x : D} {cs : List D} {us : List Value} {t : Value} {b : Bool} (ht : TyQ Γ.X.K μ x t) (hc : cs.map clsD = us.map some) (hk : PySem.W.kitAny Γ.X.K t us = some b) (q : Q (.bl b) μ) : cld Γ (.builtin "isinstance") [x, .tup cs] δ μ Q := cld_of call_isiS fun F σ H vs a r0 => by
  obtain ⟨v, ws, rfl, r1, r2⟩ := r0.uncons
  obtain ⟨w, zs, rfl, r3, r4⟩ := r2.uncons
  rw [r4.unnil]
  obtain ⟨p, ws, rfl, h1, h2⟩ := dpT r3
  exact ⟨v, p, ws, t, us, b, rfl, Same.sqT a.sx.sub h1, clsDs_run hc h2, tyQ_run a r1 ht, hk, PostE.here a dpb q⟩
end
/-! ### membership among flat things -/
def flatD : D → Bool
  | .non | .bl _ | .int _ | .str _ => true
  | _ => false
def fE : D → D → Bool
  | .non, .non => true
  | .bl a, .bl b => a == b
  | .bl a, .int b => (if a then 1 else 0) == b
  | .int a, .bl b => a == (if b then 1 else 0)
  | .int a, .int b => a == b
  | .str a, .str b => a == b
  | _, _ => false
theorem flat_run {K : PySem.W.Frag} {F : Hp} {x : D} {v : V} (h : flatD x = true) (r : Dp K F x v) : flatV v = true := by
  cases x <;> cases h <;> (rw [Dp] at r; subst r; rfl)
theorem fE_run {K : PySem.W.Frag} {F : Hp} {x y : D} {v w : V} (h : flatD x = true) (h' : flatD y = true) (r : Dp K F x v) (r' : Dp K F y w) : eqV v w = fE x y := by
  cases x <;> cases h <;> (rw [Dp] at r; subst r) <;> cases y <;> cases h' <;> (rw [Dp] at r'; subst r'; rfl)
theorem flats_run {K : PySem.W.Frag} {F : Hp} : ∀ {xs : List D} {vs : List V}, xs.all flatD = true → Dps K F xs vs → vs.all flatV = true
  | [], vs, _, r => by rw [r.unnil]; rfl
  | x :: xs, vs, h, r => by
    obtain ⟨v, ws, rfl, r1, r2⟩ := r.uncons
    rw [List.all_cons, Bool.and_eq_true] at h ⊢
    exact ⟨flat_run h.1 r1, flats_run h.2 r2⟩
def inD (x : D) (xs : List D) : Bool := xs.any fun y => fE y x
theorem inD_run {K : PySem.W.Frag} {F : Hp} {x : D} {v : V} (h : flatD x = true) (r : Dp K F x v) : ∀ {xs : List D} {vs : List V}, xs.all flatD = true → Dps K F xs vs → inV v vs = inD x xs
  | [], vs, _, r => by rw [r.unnil]; rfl
  | y :: xs, vs, h', r' => by
    obtain ⟨w, ws, rfl, r1, r2⟩ := r'.uncons
    rw [List.all_cons, Bool.and_eq_true] at h'
    show (eqV w v || inV v ws) = (fE y x || inD x xs)
    rw [fE_run h'.1 h r1 r, inD_run h r h'.2 r2]
theorem inD_str (z : Str) : ∀ ys : List Str, inD (.str z) (ys.map .str) = decide (z ∈ ys)
  | [] => rfl
  | y :: ys => by
    show ((y == z) || inD (.str z) (ys.map .str)) = _
    rw [inD_str z ys]
    by_cases e : y = z
    · subst e; simp
    · have e' : ¬ z = y := fun h => e h.symm
      simp [e, e', List.mem_cons]
theorem inD_int (z : Int) : ∀ ys : List Int, inD (.int z) (ys.map .int) = decide (z ∈ ys)
  | [] => rfl
  | y :: ys => by
    show ((y == z) || inD (.int z) (ys.map .int)) = _
    rw [inD_int z ys]
    by_cases e : y = z
    · subst e; simp
    · have e' : ¬ z = y := fun h => e h.symm
      simp [e, e', List.mem_cons]
/-- a sequence as a datum -/
inductive SeqD (μ : Mu) : D → List D → Prop where
  | lst (xs) : SeqD μ (.lst xs) xs
  | rl (xs) : SeqD μ (.rl xs) xs
  | tup (xs) : SeqD μ (.tup xs) xs
  | own {p xs} (h : (p, Cell.lst xs) ∈ μ) : SeqD μ (.ref p) xs
section
variable {Γ : Ct} {δ : Dl} {μ : Mu} {Q : D → Mu → Prop} {x y : D} {xs : List D}
theorem seqD_run {F H : Hp} {σ : L2.St} {v : V} (a : At Γ F δ μ σ H) (h : SeqD μ y xs) (r : Dp Γ.X.K F y v) : ∃ p vs, v = .ref p ∧ (SqL Γ.X.K H p vs ∨ SqT Γ.X.K H p vs) ∧ Dps Γ.X.K F xs vs := by
  cases h with
  | lst =>
    obtain ⟨p, vs, rfl, h1, h2⟩ := dpL r
    exact ⟨p, vs, rfl, .inl (.inl (.inl (a.sx.sub _ _ h1))), h2⟩
  | rl =>
    obtain ⟨p, vs, rfl, h1, h2⟩ := dpRl r
    exact ⟨p, vs, rfl, .inl (a.sx.sub.seq h1), h2⟩
  | tup =>
    obtain ⟨p, vs, rfl, h1, h2⟩ := dpT r
    exact ⟨p, vs, rfl, .inr (Same.sqT a.sx.sub h1), h2⟩
  | own h =>
    rw [dpR r]
    obtain ⟨vs, h1, h2⟩ := a.sx.cells _ h
    exact ⟨_, vs, rfl, .inl (.inl (.inl h1)), h2⟩
theorem opd_in (hs : SeqD μ y xs) (hx : flatD x = true) (hf : xs.all flatD = true) (q : Q (.bl (inD x xs)) μ) : opd Γ (compareOp .In) x y δ μ Q := opd_of op_in_seq fun F σ H vx vy a r1 r2 => by
  obtain ⟨p, vs, rfl, h1, h2⟩ := seqD_run a hs r2
  refine ⟨p, vs, rfl, h1, flat_run hx r1, flats_run hf h2, ?_⟩
  rw [if_neg (by decide), inD_run hx r1 hf h2]
  exact PostE.here a dpb q
theorem opd_notIn (hs : SeqD μ y xs) (hx : flatD x = true) (hf : xs.all flatD = true) (q : Q (.bl (!inD x xs)) μ) : opd Γ (compareOp .NotIn) x y δ μ Q := opd_of op_notIn_seq fun F σ H vx vy a r1 r2 => by
  obtain ⟨p, vs, rfl, h1, h2⟩ := seqD_run a hs r2
  refine ⟨p, vs, rfl, h1, flat_run hx r1, flats_run hf h2, ?_⟩
  rw [if_pos rfl, inD_run hx r1 hf h2]
  exact PostE.here a dpb q
theorem flat_strs (ys : List Str) : (ys.map D.str).all flatD = true := by rw [List.all_map]; exact List.all_eq_true.mpr fun _ _ => rfl
theorem flat_ints (ys : List Int) : (ys.map D.int).all flatD = true := by rw [List.all_map]; exact List.all_eq_true.mpr fun _ _ => rfl
theorem opd_inS {z : Str} (ys : List Str) (hs : SeqD μ y xs) (e : xs = ys.map .str) (q : Q (.bl (decide (z ∈ ys))) μ) : opd Γ (compareOp .In) (.str z) y δ μ Q := by
  subst e; exact opd_in hs rfl (PD.flat_strs ys) (by rw [inD_str]; exact q)
theorem opd_notInS {z : Str} (ys : List Str) (hs : SeqD μ y xs) (e : xs = ys.map .str) (q : Q (.bl (!decide (z ∈ ys))) μ) : opd Γ (compareOp .NotIn) (.str z) y δ μ Q := by
  subst e; exact opd_notIn hs rfl (PD.flat_strs ys) (by rw [inD_str]; exact q)
end
end PD
/-! PD11: own ==, !=, str of data. -/
namespace PD
open PySem PySem.Spec PyProof.Rows L2
end PD
/-! PD12: starred items, written dicts, texts. -/
namespace PD
open PySem PySem.Spec PyProof.Rows L2
section
variable {Γ : Ct} {δ : Dl} {μ : Mu} {pos : Pos}
theorem star_list {X : Cx} {pins : List (Addr × Obj)} {σ : L2.St} {H : Hp} {s : Shared} {a : Addr} {xs : List V} {E : Value → Shared → Prop} {Q : List Value → Shared → Prop} (I : Inv X pins σ H s) (h : SqL X.K H a xs) (hQ : ∀ us s', Inv X pins σ H s' → Vals xs us → Q us s') : PySem.W.StarOf (model X.prog X.w) X.A E (.ref a) Q s := by
  obtain ⟨its, r, ⟨o, n, ho, hc, _, hd⟩, hz⟩ := I.list h
  have hl := r.length
  unfold PySem.W.StarOf notIterableAtAll
  refine wpAny_bind (wpAny_specialOf (T := "list") ⟨o, ho, hc⟩ PySem.F.slot_list_iter.lookup (wpAny_pure ⟨rfl, ?_⟩))
  exact wpAny_collect_seq a (.inl rfl) ho hc hd (fun h' hk => hQ _ _ (I.kept (t' := s.toks) hk) (by simpa using r)) (by rw [List.size_toArray]; omega)
theorem ea_star {e : Expr} {p : Pos} {es : List Expr} {Q : List D → Mu → Prop} (h : ed Γ e δ μ fun x μ1 => ∃ xs, SeqD μ1 x xs ∧ ea Γ es δ μ1 fun ds μ2 => (xs ++ ds).length ≤ sizeLine ∧ Q (xs ++ ds) μ2)
    (he : starEach (.Starred e p :: es) Γ.X.env = (true, eval e Γ.X.env) :: starEach es Γ.X.env := by rfl) : ea Γ (.Starred e p :: es) δ μ Q := fun F σ H a pos pins s I => by
  refine PySem.W.items_star (thn (h F σ H a pins s I) fun u s1 ⟨v, H1, I1, rv, F1, x, μ1, s1', a1, r1, xs, hs, q⟩ => ?_) he
  obtain ⟨q', vs, rfl, hq, r2⟩ := seqD_run a1 hs r1
  obtain rfl : u = Value.ref q' := rv
  have fin : ∀ us s', Inv Γ.X pins σ H1 s' → Vals vs us → wpAny (model Γ.X.prog Γ.X.w) Γ.X.A (spliced (backTo pos (starEach es Γ.X.env))) (fun ws s3 => AP Γ.X pins σ (PostA Γ F δ σ Q) (us ++ ws) s3) Γ.X.xe s' := fun us s' I' ru =>
    thn (q F1 σ H1 a1 pos pins s' I') fun ws s3 ⟨zs, H2, I2, rw', F2, ds, μ2, s2', a2, r3, hz, q2⟩ => ⟨vs ++ zs, H2, I2, ru.append rw', F2, xs ++ ds, μ2, s1'.trans s2', a2, (r2.mono s2').append r3, q2⟩
  rcases hq with hq | hq
  · exact star_list I1 hq fin
  · exact star_tup I1 hq fin
end
/-! ### the top with its written dicts -/
structure TXW (fa : List He.Fa) (fn : List He.DefD) (ts : List He.Tab) (ex : PySem.W.Frag → Bool) (w : World) (K : PySem.W.Frag) (mg : Str → Option Value) : Prop extends TX fa fn ex K mg where
  tab : ∀ (i : Nat) (t : He.Tab), ts[i]? = some t → ∃ es n, KDict K w (t.1 K) es n
theorem txw_of {fa : List He.Fa} {fn : List He.DefD} {ex : PySem.W.Frag → Bool} {K : PySem.W.Frag} {mg : Str → Option Value} {ts : List He.Tab} {tf : List He.Defn} {w : World} {h h' : Heap} (X : K.In h) (G : h.Ns mainGlobals mg) (c : He.SaysX fa fn ts tf ex w h' K) : TXW fa fn ts ex w K mg where
  toTX := tx_of X G c
  tab := fun i _ e => c.t.tab i e
section
variable {Γ : Ct} {δ : Dl} {μ : Mu} {Q : D → Mu → Prop} {a : Addr} {es : Array DictEntry} {n : Nat}
theorem mtd_startswith {x z : Str} (q : Q (.bl (Txt.startswith x z)) μ) : mtd Γ "str.startswith" (.str x) [.str z] δ μ Q := mtd_of mt_startswith fun F σ H vx vs a r1 r2 => by
  rw [dpS r1]
  obtain ⟨v, rfl, r3⟩ := r2.one
  rw [dpS r3]
  exact ⟨x, z, rfl, rfl, PostE.here a dpb q⟩
end
/-! ### own classes, told apart -/
/-! ### a comprehension whose items are drawn -/
/-! ### lists of texts compared -/
/-! ### isinstance of built-in types -/
theorem kb_NoneType_str : kitB "NoneType" "str" = some false := by decide +kernel
theorem kb_NoneType_int : kitB "NoneType" "int" = some false := by decide +kernel
theorem kb_NoneType_bool : kitB "NoneType" "bool" = some false := by decide +kernel
theorem kb_NoneType_list : kitB "NoneType" "list" = some false := by decide +kernel
theorem kb_NoneType_tuple : kitB "NoneType" "tuple" = some false := by decide +kernel
theorem kb_bool_str : kitB "bool" "str" = some false := by decide +kernel
theorem kb_bool_int : kitB "bool" "int" = some true := by decide +kernel
theorem kb_bool_bool : kitB "bool" "bool" = some true := by decide +kernel
theorem kb_bool_list : kitB "bool" "list" = some false := by decide +kernel
theorem kb_bool_tuple : kitB "bool" "tuple" = some false := by decide +kernel
theorem kb_int_str : kitB "int" "str" = some false := by decide +kernel
theorem kb_int_int : kitB "int" "int" = some true := by decide +kernel
theorem kb_int_bool : kitB "int" "bool" = some false := by decide +kernel
theorem kb_int_list : kitB "int" "list" = some false := by decide +kernel
theorem kb_int_tuple : kitB "int" "tuple" = some false := by decide +kernel
theorem kb_str_str : kitB "str" "str" = some true := by decide +kernel
theorem kb_str_int : kitB "str" "int" = some false := by decide +kernel
theorem kb_str_bool : kitB "str" "bool" = some false := by decide +kernel
theorem kb_str_list : kitB "str" "list" = some false := by decide +kernel
theorem kb_str_tuple : kitB "str" "tuple" = some false := by decide +kernel
theorem kb_list_str : kitB "list" "str" = some false := by decide +kernel
theorem kb_list_int : kitB "list" "int" = some false := by decide +kernel
theorem kb_list_bool : kitB "list" "bool" = some false := by decide +kernel
theorem kb_list_list : kitB "list" "list" = some true := by decide +kernel
theorem kb_list_tuple : kitB "list" "tuple" = some false := by decide +kernel
theorem kb_tuple_str : kitB "tuple" "str" = some false := by decide +kernel
theorem kb_tuple_int : kitB "tuple" "int" = some false := by decide +kernel
theorem kb_tuple_bool : kitB "tuple" "bool" = some false := by decide +kernel
theorem kb_tuple_list : kitB "tuple" "list" = some false := by decide +kernel
theorem kb_tuple_tuple : kitB "tuple" "tuple" = some true := by decide +kernel
theorem ka_NoneType {K : PySem.W.Frag} : PySem.W.kitAny K (.type "NoneType") [.type "list", .type "tuple"] = some false := kitAny_cons (kit_ty kb_NoneType_list) (fun _ => kitAny_cons (kit_ty kb_NoneType_tuple) (fun _ => kitAny_nil) fun h => nomatch h) fun h => nomatch h
theorem ka_bool {K : PySem.W.Frag} : PySem.W.kitAny K (.type "bool") [.type "list", .type "tuple"] = some false := kitAny_cons (kit_ty kb_bool_list) (fun _ => kitAny_cons (kit_ty kb_bool_tuple) (fun _ => kitAny_nil) fun h => nomatch h) fun h => nomatch h
theorem ka_int {K : PySem.W.Frag} : PySem.W.kitAny K (.type "int") [.type "list", .type "tuple"] = some false := kitAny_cons (kit_ty kb_int_list) (fun _ => kitAny_cons (kit_ty kb_int_tuple) (fun _ => kitAny_nil) fun h => nomatch h) fun h => nomatch h
theorem ka_str {K : PySem.W.Frag} : PySem.W.kitAny K (.type "str") [.type "list", .type "tuple"] = some false := kitAny_cons (kit_ty kb_str_list) (fun _ => kitAny_cons (kit_ty kb_str_tuple) (fun _ => kitAny_nil) fun h => nomatch h) fun h => nomatch h
theorem ka_list {K : PySem.W.Frag} : PySem.W.kitAny K (.type "list") [.type "list", .type "tuple"] = some true := kitAny_cons (kit_ty kb_list_list) (fun h => nomatch h) fun _ => rfl
theorem ka_tuple {K : PySem.W.Frag} : PySem.W.kitAny K (.type "tuple") [.type "list", .type "tuple"] = some true := kitAny_cons (kit_ty kb_tuple_list) (fun _ => kitAny_cons (kit_ty kb_tuple_tuple) (fun h => nomatch h) fun _ => rfl) fun h => nomatch h
section
variable {Γ : Ct} {δ : Dl} {μ : Mu} {Q : D → Mu → Prop}
/-- isinstance(x, (list, tuple)) of a sequence -/
theorem cld_isiSeq {x : D} {xs : List D} (hs : SeqD μ x xs) (q : Q (.bl true) μ) : cld Γ (.builtin "isinstance") [x, .tup [.ty "list", .ty "tuple"]] δ μ Q := by
  cases hs with
  | lst => exact cld_isiT (.lst _) (us := [.type "list", .type "tuple"]) rfl ka_list q
  | rl => exact cld_isiT (.rl _) (us := [.type "list", .type "tuple"]) rfl ka_list q
  | tup => exact cld_isiT (.tup _) (us := [.type "list", .type "tuple"]) rfl ka_tuple q
  | own h => exact cld_isiT (.own h) (us := [.type "list", .type "tuple"]) rfl ka_list q
/-- .. of what is none -/
theorem cld_isiNoSeq {x : D} {a : String} (h : TyQ Γ.X.K μ x (.type a)) (hk : PySem.W.kitAny Γ.X.K (.type a) [.type "list", .type "tuple"] = some false) (q : Q (.bl false) μ) : cld Γ (.builtin "isinstance") [x, .tup [.ty "list", .ty "tuple"]] δ μ Q := cld_isiT h (us := [.type "list", .type "tuple"]) rfl hk q
end
/-! ### any sequence -/
theorem SeqD.cons {μ : Mu} {x : D} {xs : List D} (h : SeqD μ x xs) (c : Addr × Cell) : SeqD (c :: μ) x xs := by
  cases h with
  | lst => exact .lst _
  | rl => exact .rl _
  | tup => exact .tup _
  | own h => exact .own (List.mem_cons_of_mem _ h)
/-! ### defs with defaults -/
/-! ### texts that are joined -/
/-! ### a cell that is needed no more -/
section
variable {Γ : Ct} {e : Expr} {δ : Dl} {μ : Mu} {Q : D → Mu → Prop}
theorem cell_some {K : PySem.W.Frag} {F H : Hp} {p : Addr} {c : Cell} (h : CellOk K F H p c) : ∃ o, H p = some o := by
  cases c with
  | lst ds => obtain ⟨vs, h, _⟩ := h; exact ⟨_, h⟩
  | ins C dx ns ds => obtain ⟨gs, h, _⟩ := h; exact ⟨_, h⟩
  | dK ks ds => obtain ⟨kvs, h, _⟩ := h; exact ⟨_, h⟩
  | dT ks ds => obtain ⟨kvs, h, _⟩ := h; exact ⟨_, h⟩
  | dF od gs ds => exact ⟨_, h.1⟩
  | set S n => exact ⟨_, h⟩
end
end PD
/-! PD13: the order of the cells, cells given up; truth values by repr and is. -/
namespace PD
open PySem PySem.Spec PyProof.Rows L2
section
variable {Γ : Ct} {F : Hp} {δ : Dl} {μ μ' : Mu} {σ : L2.St} {H : Hp} {e : Expr} {rest : List Stmt} {st : Stmt} {E : En} {Q : D → Mu → Prop}
theorem sds_drop {μa μb : Mu} {c : Addr × Cell} (h : sds Γ rest δ (μa ++ μb) E) : sds Γ rest δ (μa ++ c :: μb) E := fun F σ H a => by
  obtain ⟨p, c⟩ := c
  obtain ⟨o, ho⟩ := cell_some (a.sx.cells (p, c) mem_mid)
  have sF : Same F (upd F p o) := same_upd (a.sx.off (p, c) mem_mid)
  exact wss_mono (h _ σ H (a.freeze ho)) (En.up sF)
end
section
variable {Γ : Ct} {δ : Dl} {μ : Mu} {Q : D → Mu → Prop}
theorem call_repr_bl {X : Cx} : CallR X (.builtin "repr") (fun xs H Q => ∃ b, xs = [.bl b] ∧ Q (.str (if b then "True" else "False")) H) := fun pins s σ H xs us Q I r h => by
  obtain ⟨b, rfl, q⟩ := h
  obtain ⟨u, rfl, e⟩ := vals1 r
  obtain rfl : u = Value.bool b := e
  exact PySem.P.repr_of_bool ⟨.str _, H, I.tok _, ⟨_, rfl⟩, q⟩
theorem cld_repr_bl {b : Bool} (q : Q (.str (if b then "True" else "False")) μ) : cld Γ (.builtin "repr") [.bl b] δ μ Q := cld_of call_repr_bl fun F σ H vs a r0 => by
  obtain ⟨v, rfl, r⟩ := r0.one
  rw [dpB r]; exact ⟨b, rfl, PostE.here a dps q⟩
theorem op_isB {X : Cx} : OpR X (compareOp .Is) (fun x y H Q => ∃ a b, x = .bl a ∧ y = .bl b ∧ Q (.bl (a == b)) H) := fun pins s σ H x y v u Q I rx ry h => by
  obtain ⟨a, b, rfl, rfl, q⟩ := h
  obtain rfl : v = Value.bool a := rx
  obtain rfl : u = Value.bool b := ry
  exact wpAny_is_plain rfl (fin_bl I q (by cases a <;> cases b <;> rfl))
theorem opd_isB {a b : Bool} (q : Q (.bl (a == b)) μ) : opd Γ (compareOp .Is) (.bl a) (.bl b) δ μ Q := opd_of op_isB fun F σ H vx vy a' r1 r2 => by
  rw [dpB r1, dpB r2]; exact ⟨a, b, rfl, rfl, PostE.here a' dpb q⟩
end
end PD
/-! PD14: own exceptions that keep one thing, over any built-in base: made, raised. -/
namespace PySem
namespace PDX
open PySem.W PySem.Calls PyProof.Rows Builtin Builtin.ObjectAttr
section
variable {prog : Program} {w : World} {A : Around} {E : Value → Shared → Prop} {R : Result → Shared → Prop} {hp : Heap} {g : Array GenState} {d : Drawn} {t : Nat} {os : OsState}
/-- the first thing that is stored on an exception: its dict is laid -/
theorem first_store {B : String} {tl : List Value} {K : Frag} {name : Str} {tk : Tok} {v : Value} {x C : Addr} {fv : Array Value} {cd : ClassData} (SF : StoreFacts B tl "object.__setattr__" "object") (X : K.In hp)
    (hx : hp.get? x = some { cls := .ref C, data := .fields fv }) (ho : excOver K C tl = true) (hcd : clsIn K C = some cd) (hh : cd.hasDict = true) (ha : findIn K (.ref C) name = some none)
    (k : ∀ h' tk' dx, (∀ b o, b ≠ x → hp.get? b = some o → h'.get? b = some o) → hp.objs.size ≤ dx → dx ≠ x → h'.get? x = some { cls := .ref C, dict := some dx, data := .fields fv } → h'.Ns1 dx (fun y => if y = name then some v else none) → R (.ok (.ret .none)) ⟨h', g, d, tk', os⟩) :
    codeAny (model prog w) A (.call (.builtin "object.__setattr__") ⟨[.ref x, .str name tk, v], []⟩) R ⟨hp, g, d, t, os⟩ := by
  have J : InstAt hp x { cls := .ref C, data := .fields fv } C none := ⟨hx, rfl, rfl, trivial⟩
  have no : takerIn K C name = some none := by unfold takerIn; rw [ha]; rfl
  have far : x ≠ hp.objs.size := Nat.ne_of_lt (Heap.lt_size hx)
  have LC : Looks (model prog w) hp (classData C) cd := looks_clsIn X hcd
  refine osa_openX (od := none) SF X J ho no fun b => ?_
  show wpAny _ _ (storeInOwnDict (.ref x) (.ref C) (.str name tk) name v b) _ _ _
  obtain ⟨c1, c2, c3, c4, c5, c6, c7, c8, c9, c10, c11⟩ := cd
  dsimp only at hh
  subst hh
  unfold storeInOwnDict ownDictForStores
  repeat (first | with_reducible refine PySem.HandSPX.store_in_new ?_ ?_ | with_reducible refine wpAny_loadPart_at hx ?_ | with_reducible refine LC.at ?_ | wp_step)
  · exact ⟨_, #[], _, (Heap.get?_update_ne _ _ _ _ far.symm).trans (Heap.get?_push_at rfl rfl), rfl, fun e he => absurd he (by simp), fun _ => rfl⟩
  · intro h' tk' hn' hs
    have hx1 : (hp.push { cls := .type "dict", data := .dict #[] }).get? x = some { cls := .ref C, data := .fields fv } := Heap.get?_push_of_some _ hx
    exact k h' tk' hp.objs.size (fun b o hb ho => (hs.2 b (Nat.ne_of_lt (Heap.lt_size ho))).trans ((Heap.get?_update_ne _ _ _ _ hb).trans (Heap.get?_push_of_some _ ho))) (Nat.le_refl _) far.symm
      ((hs.2 x far).trans (Heap.get?_update_self _ hx1 rfl)) hn'
end
end PDX
end PySem
namespace PD
open PySem PySem.Spec PyProof.Rows L2
theorem nm_vis {N : List Str} {sc : Scope} {i : Nat} {x : Str} (n : Nm N sc i x) : Vis sc x := by
  rcases n.loc with h | h
  · exact .inl h
  · exact .inr (.inl h)
/-- a built-in base of exceptions -/
structure Bas (B newId initId : String) (tl : List Value) : Prop where
  F : ExcBaseFacts B newId initId tl
  S : PySem.StoreFacts B tl "object.__setattr__" "object"
/-- an own class over it -/
structure OexG (newId : String) (tl : List Value) (K : PySem.W.Frag) (C : Addr) : Prop where
  cls : ∃ nm q N bs bm sn sub ab col dd k0 k1 k2 k3 k5, K.lookup C = some (excClassObj nm q C N bs bm true sn sub ab col dd k0 k1 k2 k3 k5 newId) ∧ PySem.W.excTail tl bm = true
  sa : PySem.W.findIn K (.ref C) "__setattr__" = some (some (.builtin "object.__setattr__"))
  exC : PySem.W.subIn K (.ref C) (.type "BaseException") = some true
  tyC : PySem.W.typeIn K (.ref C) = some (.type "type")
  kC : PySem.W.keepIn K (.ref C) = true
section
variable {X : Cx} {B newId initId : String} {tl : List Value}
/-- self.f = y, the first one -/
theorem st_first {pins : List (Addr × Obj)} {σ : L2.St} {H : Hp} {s : Shared} {a C : Addr} {f : Str} {y : V} {u : Value} {Q : Unit → Shared → Prop} {E : Value → Shared → Prop} {A : Around} (Z : Bas B newId initId tl) (T : OexG newId tl X.K C) (I : Inv X pins σ H s) (e : H a = some (exo a C none))
    (hno : PySem.W.findIn X.K (.ref C) f = some none) (ry : RelV y u) (h : ∀ dx s', H dx = none → dx ≠ a → Inv X pins σ (upd (upd H dx (exd dx [(f, y)])) a (exo a C (some dx))) s' → Q () s') : wpAny (model X.prog X.w) A (setAttr (.ref a) f u) Q E s := by
  obtain ⟨nm, q, N, bs, bm, sn, sub, ab, col, dd, k0, k1, k2, k3, k5, look, tail⟩ := T.cls
  have cl : PySem.W.clsIn X.K C = some { name := nm, bases := bs, mro := .ref C :: bm, ns := N, qualname := q, hasDict := true, slotNames := sn, subclasses := sub, abstract := ab, collection := col, hasDel := false } := by unfold PySem.W.clsIn; rw [look] <;> rfl
  have over : PySem.W.excOver X.K C tl = true := by
    unfold PySem.W.excOver
    rw [cl]
    show (C == C && PySem.W.excTail tl bm) = true
    rw [tail, beq_self_eq_true]; rfl
  obtain ⟨t1, stands⟩ := exo_at I.hok e
  obtain ⟨hp, g, d, t, os⟩ := s
  refine PySem.W.set_plain I.kIn (ox := { cls := .ref C, dict := none, data := .fields #[.ref t1, .none, .none, .none, .bool false, .none] }) (od := none) ⟨stands, rfl, rfl, trivial⟩ T.sa (PySem.PDX.first_store Z.S I.kIn stands over cl rfl hno fun h' tk' dx keep dn dne hx hn => ?_)
  have free : H dx = none := I.hok.fresh dn
  have old : ∀ {b : Addr} {o : Obj}, hp.get? b = some o → b ≠ dx := fun {b o} z => Nat.ne_of_lt (Nat.lt_of_lt_of_le (Heap.lt_size z) dn)
  have nota : ∀ {b : Addr}, H b = none → b ≠ a := fun {b} n z => by rw [z, e] at n; cases n
  have un : Un X.fs [] H (upd (upd H dx (exd dx [(f, y)])) a (exo a C (some dx))) hp h' :=
    ⟨fun b o z n _ _ => keep b o (nota n) z, fun b o z n _ _ => ⟨o.slots, keep b o (nota n) z⟩, fun b o z n _ => (upd_ne (nota n)).trans ((upd_ne (old z)).trans n), fun b o z _ => by
        by_cases q : b = a
        · exact ⟨_, q ▸ hx⟩
        · exact ⟨o, keep b o q z⟩, fun b xs z => (upd_ne (at_ne e z exo_tup)).trans ((upd_ne (ne_of_none z free)).trans z), fun b o v z => (upd_ne (at_ne e z exo_frz)).trans ((upd_ne (ne_of_none z free)).trans z),
      fun b ps z => ⟨#[], by rw [upd_ne (at_ne e z exo_tbl), upd_ne (ne_of_none z free), z]; simp⟩⟩
  refine h dx _ free dne (I.un (t' := tk') un fun b o z => ?_)
  by_cases q : b = a
  · subst q
    rw [upd_same] at z
    cases z
    exact exo_ok hx
  · rw [upd_ne q] at z
    by_cases q2 : b = dx
    · subst q2
      rw [upd_same] at z
      cases z
      exact exd_ok hn (relO_put (fs := []) ry fun _ => True.intro)
    · rw [upd_ne q2] at z
      refine (I.hok b o z).stay (fun c v hc y => keep c v ?_ y) (fun c hc => (upd_ne (at_ne e hc exo_own)).trans ((upd_ne (ne_of_none hc free)).trans hc)) fun c xs hc => (upd_ne (at_ne e hc exo_tup)).trans ((upd_ne (ne_of_none hc free)).trans hc)
      rcases hc with rfl | hc
      · exact q
      · exact at_ne e hc exo_own
theorem ps_stFirst {o e : Expr} {to te : TE} {f : Str} {p' pos : Pos} (Z : Bas B newId initId tl) (ho : PE X o to) (he : PE X e te) (hs : swapsWith e (some (.Attribute o f p')) pos.line X.env = pure false := by rfl) :
    PS X (.Assign [.Attribute o f p'] e pos) (fun D σ H => te σ H fun y H1 => to σ H1 fun x H2 => ∃ a C : Addr, x = .ref a ∧ OexG newId tl X.K C ∧ PySem.W.findIn X.K (.ref C) f = some none ∧ H2 a = some (exo a C none) ∧ ∀ dx, H2 dx = none → dx ≠ a → D.nx σ (upd (upd H2 dx (exd dx [(f, y)])) a (exo a C (some dx)))) where
  run := fun pins s σ H D I h => plainObj_wpAny_Assign_Attribute (thn (he.run pins s σ H _ I h) fun v s1 ⟨y, H1, I1, r1, q1⟩ => thn (ho.run pins s1 σ H1 _ I1 q1) fun u s2 ⟨x, H2, I2, r2, a, C, ex, T, hno, ea, q⟩ => by
    subst ex
    obtain rfl : u = Value.ref a := r2
    exact st_first Z T I2 ea hno r1 fun dx s' n ne J => ⟨σ, _, J, q dx n ne⟩) hs
end
/-! ### def __init__(self, x): self.f = x -/
def spOexG (newId : String) (tl : List Value) (K : PySem.W.Frag) (fl : Str) : Sp := fun vs H Q _ => ∃ a C v, vs = [.ref a, v] ∧ OexG newId tl K C ∧ PySem.W.findIn K (.ref C) fl = some none ∧ H a = some (exo a C none) ∧ ∀ dx, H dx = none → dx ≠ a → Q .non (upd (upd H dx (exd dx [(fl, v)])) a (exo a C (some dx)))
section
variable {P : Program} {w : World} {K : PySem.W.Frag} {mg : Str → Option Value} {base : Heap} {B newId initId : String} {tl : List Value}
theorem fn_oexG {fl xs xx qual : Str} {params : Arguments} {scope : Scope} {kws : List (Str × V)} {fI : Addr} {fd : FuncData} {N : List Str} {k : Nat} {p1 p2 p3 p4 : Pos} (Z : Bas B newId initId tl) (F : FunD K "__init__" qual params [.Assign [.Attribute (.Name xs p1) fl p2] (.Name xx p3) p4] scope [] kws fI fd) (S : FnScope N [xs, xx] scope) (n0 : Nm N scope 0 xs) (n1 : Nm N scope 1 xx) :
    L2.FnOk P w K mg base (L2.CX P w) (k + 1) fI fd [xs, xx] (spOexG newId tl K fl) := by
  refine F.ok S (fun vs H Q E h => ?_) (fun cdv A outer s H vs Q E hr h => ?_)
  · obtain ⟨a, C, v, rfl, _⟩ := h; rfl
  · obtain ⟨a, C, v, rfl, T, hno, ha, q⟩ := h
    exact ⟨_, pss_one (ps_stFirst Z (pe_var (i := 0) n0.at_ (nm_vis n0) n0.dbg n0.cls) (pe_var (i := 1) n1.at_ (nm_vis n1) n1.dbg n1.cls)), v, rfl, .ref a, rfl, a, C, rfl, T, hno, ha, fun dx h1 h2 => q dx h1 h2⟩
end
section
variable {Γ : Ct} {δ : Dl} {μ : Mu} {E : En} {e : Expr} {x fl : Str} {C : Addr} {p p2 pos : Pos} {j : Nat}
theorem pass_none {X : Cx} : Passes (L2.CX X.prog X.w) X (fun _ _ _ => False) := fun pins σ H s e s' I h => by
  obtain ⟨_, _, _, _, _, _, _, _, _, _, _, _, z⟩ := h
  exact z.elim
end
end PD
/-! PD15: try .. except X as e. -/
namespace PD
open PySem PySem.Spec PyProof.Rows L2
end PD
/-! PD16: what a suite asks of its exception. -/
namespace PD
open PySem PySem.Spec PyProof.Rows L2
end PD
/-! PD17: the class of an exception that keeps things. -/
namespace PD
open PySem PySem.Spec PySem.Calls PyProof.Rows L2
section
variable {prog : Program} {w : World} {A : Around} {E : Value → Shared → Prop} {s : Shared} {K : PySem.W.Frag} {x D : Addr} {ox o : Obj}
/-- e.__class__ of such an exception -/
theorem exc_class {Q : Option Value → Shared → Prop} (T : ExcC K D) (X : K.In s.heap) (I : PySem.W.InstAt s.heap x ox D (some o)) (h : Q (some (.ref D)) { s with toks := s.toks + 1 }) : wpAny (model prog w) A (getAttr? (.ref x) "__class__") Q E s := by
  obtain ⟨hp, g, d, t, os⟩ := s
  have F : PySem.W.findObj K D (some o) "__class__" = some (.bind (.builtin "getset_descriptor.__get__") (.builtin "object.__class__")) := PySem.W.findObj_data (by obtain ⟨cd, hc, _⟩ := PySem.W.any_some T.hd; rw [hc]; rfl) T.ha T.hn T.ht
  have ty := I.type (M := model prog w)
  have own := PySem.W.looks_findIn (M := model prog w) X T.hg
  have hook := PySem.W.looks_findIn (M := model prog w) X T.hk
  have there := PySem.W.looks_find (M := model prog w) X I F
  have base : PySem.W.Looks (model prog w) hp (isInstance (.ref x) (.type "BaseException")) true := ty.andThen (PySem.W.looks_subIn X T.hs)
  have n1 : (onTheHeap (Value.ref D) && Value.builtin "BaseException.__getattribute__" == Value.builtin "object.__getattribute__") = false := by
    rw [show (Value.builtin "BaseException.__getattribute__" == Value.builtin "object.__getattribute__") = false by decide +kernel]; rfl
  have n0 : (false && onTheHeap (Value.builtin "BaseException.__getattribute__")) = false := rfl
  unfold getAttr? getAttrBy? getAttrBy
  refine wpAny_bind (wpAny_mkText (wpAny_bind (wpAny_attempt (wpAny_holding (wpAny_bind (ty.at (wpAny_bind (own.at ?_))))))))
  show wpAny _ _ (ite ((onTheHeap (Value.ref D) && Value.builtin "BaseException.__getattribute__" == Value.builtin "object.__getattribute__") = true) _ _) _ _ _
  rw [n1, if_neg Bool.false_ne_true]; unfold getAttrByItsOwn hookBefore
  refine wpAny_bind ?_
  rw [if_pos (show onTheHeap (Value.ref D) = true from rfl)]; refine hook.at (wpAny_bind (wpAny_attempt (wpAny_holding ?_)))
  unfold callGetattribute; rw [n0, if_neg Bool.false_ne_true]
  unfold boundAndCalled; rw [PySem.F.excAttr_ValueError.ga.bind (.ref x)]
  refine wpAny_bind (wpAny_pure ?_)
  show wpAny _ _ (call (.builtin "BaseException.__getattribute__") [.ref x, .str "__class__" t]) _ _ _
  refine wpAny_call (codeAny_call_builtin PySem.F.excAttr_ValueError.ga.plain PySem.F.entry_bexc_ga (@PySem.W.check_slot (model prog w) _ _ ⟨hp, g, d, t + 1, os⟩ "BaseException.__getattribute__" "BaseException" "__getattribute__" (.ref x) [.str "__class__" t] [] _ (by decide +kernel) (by decide +kernel) base (PySem.F.args_bexc_ga (.ref x) (.str "__class__" t)) ?_))
  unfold Builtin.«object.__getattribute__»
  refine wpAny_bind (wpAny_of_eq (a := ((Value.ref x : Value), [Value.str "__class__" t])) (by first | rfl | (simp only [slotArgs]; rfl)) (wpAny_bind (wpAny_pure (wpAny_bind (ty.at (wpAny_bind (there.at ?_)))))))
  show wpAny _ _ (holding [Value.builtin "object.__class__"] (call (.builtin "getset_descriptor.__get__") [.builtin "object.__class__", .ref x, .ref D]) >>= ret) _ _ _
  refine wpAny_bind (wpAny_holding (wpAny_call (PySem.W.class_get (s := ⟨hp, g, d, t + 1, os⟩) (ox := ox) (od := some o) X I T.hm (wpAny_pure ?_))))
  show wpAny _ _ (handedOut (.ref D)) _ _ _
  rw [PySem.W.handedOut_of (v := .ref D) rfl]
  first | exact wpAny_pure (wpAny_pure h) | exact wpAny_pure h | exact wpAny_pure (wpAny_bind (wpAny_pure (wpAny_pure h)))
theorem kitx_excD (T : ExcC K D) : PySem.W.KitX K (.ref x) (.ref D) (fun h => PySem.W.InstAt h x ox D (some o)) :=
  let Z := PySem.W.handS_kitx_exc (x := x) (ox := ox) T.hg T.hk T.hs T.hd T.ha T.hn T.ht T.hm
  { ty := fun _ _ _ I => I.type, it := fun M h X I => by
      obtain ⟨cdD, hcD, _⟩ := PySem.W.any_some T.hd
      unfold PySem.W.clsIn at hcD
      split at hcD
      · next ho =>
        intro A' Q' E' s' k q
        unfold isType loadHead
        exact wpAny_bind (wpAny_loadPart (k _ _ (X _ _ ho)) (wpAny_pure q))
      · cases hcD
    ne := Z.ne, ca := fun X I k => exc_class T X I k }
end
end PD
/-! PD18: what the top tells of own exception classes, by looking. -/
namespace PD
open PySem PySem.Spec PyProof.Rows L2
def excCB (K : PySem.W.Frag) (C : Addr) : Bool := He.eqO (PySem.W.findIn K (.ref C) "__getattribute__") (some (some (.builtin "BaseException.__getattribute__"))) && (He.eqO (PySem.W.findIn K (.ref C) "__getattr__") (some none) && (decide (PySem.W.subIn K (.ref C) (.type "BaseException") = some true) && (PySem.W.hasDictIn K C && (He.eqO (PySem.W.findIn K (.ref C) "__class__") (some (some (.builtin "object.__class__"))) && (He.eqO (PySem.W.specialIn K (.builtin "object.__class__") "__get__") (some (some (.builtin "getset_descriptor.__get__"))) && (decide (PySem.W.takesIn K (.builtin "object.__class__") = some true) && decide (PySem.W.mroIn K C (.type "object") = some true)))))))
theorem excCB_ok {K : PySem.W.Frag} {C : Addr} (h : excCB K C = true) : ExcC K C := by
  obtain ⟨h1, h⟩ := Bool.and_eq_true_iff.mp h
  obtain ⟨h2, h⟩ := Bool.and_eq_true_iff.mp h
  obtain ⟨h3, h⟩ := Bool.and_eq_true_iff.mp h
  obtain ⟨h4, h⟩ := Bool.and_eq_true_iff.mp h
  obtain ⟨h5, h⟩ := Bool.and_eq_true_iff.mp h
  obtain ⟨h6, h⟩ := Bool.and_eq_true_iff.mp h
  obtain ⟨h7, h8⟩ := Bool.and_eq_true_iff.mp h
  exact ⟨He.eqO_ok h1, He.eqO_ok h2, of_decide_eq_true h3, h4, He.eqO_ok h5, He.eqO_ok h6, of_decide_eq_true h7, of_decide_eq_true h8⟩
/-- an own class over any built-in base -/
def oexgLook (newId : String) (tl : List Value) (K : PySem.W.Frag) (C : Addr) : Bool := match K.lookup C with
  | some ⟨.type "type", _, .cls cd, sl⟩ => (match cd.mro, sl.toList with
    | .ref c :: bm, [_, _, _, _, some (.builtin n), _] => decide (c = C) && (decide (n = newId) && (PySem.W.excTail tl bm && (cd.hasDict && !cd.hasDel)))
    | _, _ => false)
  | _ => false
theorem oexgLook_ok {newId : String} {tl : List Value} {K : PySem.W.Frag} {C : Addr} (h : oexgLook newId tl K C = true) : ∃ nm q N bs bm sn sub ab col dd k0 k1 k2 k3 k5, K.lookup C = some (excClassObj nm q C N bs bm true sn sub ab col dd k0 k1 k2 k3 k5 newId) ∧ PySem.W.excTail tl bm = true := by
  unfold oexgLook at h
  split at h
  · next dd cd sl look =>
    split at h
    · next c bm k0 k1 k2 k3 n k5 em es =>
      obtain ⟨e1, h⟩ := Bool.and_eq_true_iff.mp h
      obtain ⟨e2, h⟩ := Bool.and_eq_true_iff.mp h
      obtain ⟨e3, h⟩ := Bool.and_eq_true_iff.mp h
      obtain ⟨e4, e5⟩ := Bool.and_eq_true_iff.mp h
      have f1 := of_decide_eq_true e1
      have f2 := of_decide_eq_true e2
      have f5 : cd.hasDel = false := by simpa using e5
      clear e5 h
      obtain ⟨nm, bs, mro, ns, qn, hd, sn, sub, ab, col, del⟩ := cd
      obtain ⟨l⟩ := sl
      dsimp only at em es e4 f5
      subst em es e4 f5 f1 f2
      exact ⟨nm, qn, ns, bs, bm, sn, sub, ab, col, dd, k0, k1, k2, k3, k5, look, e3⟩
    · cases h
  · cases h
def oexgB (newId : String) (tl : List Value) (K : PySem.W.Frag) (C : Addr) : Bool := oexgLook newId tl K C && (He.eqO (PySem.W.findIn K (.ref C) "__setattr__") (some (some (.builtin "object.__setattr__"))) && (decide (PySem.W.subIn K (.ref C) (.type "BaseException") = some true) && (decide (PySem.W.typeIn K (.ref C) = some (.type "type")) && PySem.W.keepIn K (.ref C))))
theorem oexgB_ok {newId : String} {tl : List Value} {K : PySem.W.Frag} {C : Addr} (h : oexgB newId tl K C = true) : OexG newId tl K C := by
  obtain ⟨h1, h⟩ := Bool.and_eq_true_iff.mp h
  obtain ⟨h2, h⟩ := Bool.and_eq_true_iff.mp h
  obtain ⟨h3, h⟩ := Bool.and_eq_true_iff.mp h
  obtain ⟨h4, h5⟩ := Bool.and_eq_true_iff.mp h
  exact ⟨oexgLook_ok h1, He.eqO_ok h2, of_decide_eq_true h3, of_decide_eq_true h4, h5⟩
abbrev tlVE : List Value := [.type "ValueError", .type "Exception", .type "BaseException", .type "object"]
abbrev tlIE : List Value := [.type "IndexError", .type "LookupError", .type "Exception", .type "BaseException", .type "object"]
theorem basVE : Bas "ValueError" "ValueError.__new__" "ValueError.__init__" tlVE := ⟨PySem.F.excBase_ValueError, PySem.F.store_ValueError⟩
theorem basIE : Bas "IndexError" "IndexError.__new__" "IndexError.__init__" tlIE := ⟨PySem.F.excBase_IndexError, PySem.F.store_IndexError⟩
theorem xfC_of {K : PySem.W.Frag} {C : Addr} (T : ExcC K C) : XfC K C := ⟨T.hg, T.hk, T.hs, T.hd⟩
end PD
/-! PD19: any plain value. -/
namespace PD
open PySem PySem.Spec PyProof.Rows L2
/-- whether a plain value is of these classes -/
def isStrD : D → Bool | .str _ => true | _ => false
def isBlD : D → Bool | .bl _ => true | _ => false
end PD
/-! PD20: tests that are known. -/
namespace PD
theorem iteTr {b : Bool} {A B : Prop} (e : b = true) (h : A) : if b = true then A else B := by rw [if_pos e]; exact h
theorem iteFr {b : Bool} {A B : Prop} (e : b = false) (h : B) : if b = true then A else B := by subst e; exact h
open PySem PySem.Spec PyProof.Rows L2
end PD
/-! PD21: classmethods, cls(..), try that never raises, split, index, comprehensions by place. -/
namespace PD
open PySem PySem.Spec PyProof.Rows L2 ClX
/-! ### a classmethod called on its class -/
/-! ### a local name that holds a class, called -/
/-! ### try .. except X: whose body raises nothing -/
/-! ### methods of texts and lists of texts -/
/-! ### a comprehension by place -/
section
variable {Γ : Ct} {elt tg iter : Expr} {ifs : List Expr} {scope : Scope} {vs : List Nat} {δ : Dl} {μ : Mu} {Q : List D → Mu → Prop}
theorem lcd_ix (W : Mu → Prop) (out : List D) (h : eid Γ tg iter δ μ fun ds S μ1 => ds.length ≤ 1000000 ∧ out.length = ds.length ∧ W μ1 ∧ (∀ μ', W μ' → S μ') ∧
      (∀ (i : Nat) (d r : D) (μ' : Mu), (ds : List D)[i]? = some d → out[i]? = some r → W μ' → allB Γ scope fun Γb => gv Γb tg d vs (wipeD δ vs) μ' fun δ2 μ2 => allB Γ scope fun Γc => eif Γc ifs δ2 μ2 fun b μ3 => b = true ∧ allB Γ scope fun Γd => ed Γd elt δ2 μ3 fun x μ4 => x = r ∧ W μ4) ∧
      ∀ μ', W μ' → Q out μ') : lcd Γ elt tg iter ifs scope vs δ μ Q := fun F σ H a => wi_mono (h F σ H a) fun J H1 ⟨F1, ds, S, μ1, s1, a1, ok, hz, ho, hW, hS, hb, hq⟩ => by
  refine ⟨F1, ds, S, μ1, s1, a1, ok, hz, fun i acc μ' => acc = out.take i ∧ W μ', ⟨rfl, hW⟩, fun i acc μ' _ z => ⟨hS μ' z.2, by rw [z.1]; exact List.length_take_le _ _⟩, ?_, fun acc μ' z => by
    obtain ⟨rfl, z2⟩ := z
    rw [← ho, List.take_length]; exact hq μ' z2⟩
  rintro i d acc μ' hd ⟨rfl, z3⟩
  have hi : i < out.length := by rw [ho]; exact (List.getElem?_eq_some_iff.mp hd).1
  have hr : out[i]? = some out[i] := List.getElem?_eq_getElem hi
  intro s H C cl fp F0 μ0 H0 F2 σ2 H2 v a2 r2
  refine wg_mono (hb i d _ μ' hd hr z3 s H C cl fp F0 μ0 H0 F2 σ2 H2 v a2 r2) fun σ3 H3 ⟨w3, F3, δ3, μ3, s3, a3, q3⟩ => ⟨w3, F3, δ3, μ3, s3, a3, ?_⟩
  intro s' H' C' cl' fp' F0' μ0' H0'
  have key : ∀ {b : Bool} {μ4 : Mu}, (b = true ∧ allB Γ scope fun Γd => ed Γd elt δ3 μ4 fun x μ5 => x = out[i] ∧ W μ5) →
      if b = true then allB Γ scope fun Γd => ed Γd elt δ3 μ4 fun r μ5 => out.take i ++ [r] = out.take (i + 1) ∧ W μ5 else out.take i = out.take (i + 1) ∧ W μ4 := by
    rintro b μ4 ⟨rfl, z⟩
    intro s2 H2' C2 cl2 fp2 F02 μ02 H02 F5 σ5 H5 a5
    refine we_mono (z s2 H2' C2 cl2 fp2 F02 μ02 H02 F5 σ5 H5 a5) fun v' H6 ⟨F6, r, μ6, s6, a6, r6, q1, q2⟩ => ⟨F6, r, μ6, s6, a6, r6, ?_, q2⟩
    rw [q1, List.take_succ, hr]; rfl
  have q4 := q3 s' H' C' cl' fp' F0' μ0' H0'
  match ifs, q4 with
  | [], q4 => exact key (b := true) (μ4 := μ3) q4
  | [c], q4 => exact fun F5 σ5 H5 a5 => wt_mono (q4 F5 σ5 H5 a5) fun b H6 ⟨F6, μ6, s6, a6, q6⟩ => ⟨F6, μ6, s6, a6, key q6⟩
end
end PD
/-! PD22: what the top has written, with defs behind classmethods and properties. -/
namespace PD
open PySem PySem.Spec PyProof.Rows L2
structure TXP (fa : List He.Fa) (fn : List He.DefD) (fx : List He5.DefA) (ts : List He.Tab) (ex : PySem.W.Frag → Bool) (w : World) (K : PySem.W.Frag) (mg : Str → Option Value) : Prop extends TXW fa fn ts ex w K mg where
  dx : ∀ (i : Nat) (d : He5.DefA), fx[i]? = some d → ∃ fd, FunD K d.name d.qual d.params d.body d.scope (d.dvs K) (d.kws K) (d.at_ K) fd
  cs : ∀ (i : Nat) (x z : Str), fa[i]? = some (He.Fa.str x z) → ∃ t, mg x = some (.str z t)
  ci : ∀ (i : Nat) (x : Str) (z : Int), fa[i]? = some (He.Fa.int x z) → ∃ t, mg x = some (.int z t)
abbrev AlP : Type := (He.AlT × Bool) × List He5.FnW
def sayP (fa : List He.Fa) (fn : List He.DefD) (fx : List He5.DefA) (ts : List He.Tab) (ex : PySem.W.Frag → Bool) (K : PySem.W.Frag) : AlP := ((He.obsT fa fn ts K, ex K && fx.all fun d => d.ok K), fx.map fun d => He5.fnA K (d.at_ K))
def valP (fn : List He.DefD) (fx : List He5.DefA) (ts : List He.Tab) (w : World) : AlP := ((He.valT fn ts w, true), fx.map He5.DefA.val)
theorem txp_of {fa : List He.Fa} {fn : List He.DefD} {fx : List He5.DefA} {ts : List He.Tab} {ex : PySem.W.Frag → Bool} {w : World} {K : PySem.W.Frag} {mg : Str → Option Value} {h : Heap} (X : K.In h) (G : h.Ns mainGlobals mg) (c : sayP fa fn fx ts ex K = valP fn fx ts w) : TXP fa fn fx ts ex w K mg := by
  have e1 : He.SaysT fa fn ts w K := congrArg (fun z : AlP => z.1.1) c
  have e2 : (ex K && fx.all fun d => d.ok K) = true := congrArg (fun z : AlP => z.1.2) c
  have e3 : (fx.map fun d => He5.fnA K (d.at_ K)) = fx.map He5.DefA.val := congrArg (fun z : AlP => z.2) c
  obtain ⟨e4, e5⟩ := Bool.and_eq_true_iff.mp e2
  have S : He.SaysX fa fn ts [] ex w h K := ⟨e1, e4, fun p hp => (List.not_mem_nil hp).elim, fun p hp => (List.not_mem_nil hp).elim, fun p hp => (List.not_mem_nil hp).elim⟩
  refine ⟨txw_of X G S, fun i d hi => ?_, fun i x z hi => He.str_ok X G (S.t.d.facts (List.mem_of_getElem? hi)), fun i x z hi => He.int_ok X G (S.t.d.facts (List.mem_of_getElem? hi))⟩
  have e6 : (fx.map fun d => He5.fnA K (d.at_ K))[i]? = (fx.map He5.DefA.val)[i]? := by rw [e3]
  rw [List.getElem?_map, List.getElem?_map, hi] at e6
  exact He5.DefA.funD (Option.some.inj e6) (List.all_eq_true.mp e5 d (List.mem_of_getElem? hi))
theorem atI_zero {α : Type} {x : α} {xs : List α} : atI (x :: xs) 0 = some x := atI_nat (j := 0) rfl
/-! ### cells given up, many at once -/
end PD
/-! PD23: enumerate over a tuple; texts walked; numbers in texts; texts and numbers of the top. -/
namespace PySem
open Sem (wp)
end PySem
namespace PD
open PySem PySem.Spec PyProof.Rows L2
section
variable {Γ : Ct} {δ : Dl} {μ : Mu} {R : List D → (Mu → Prop) → Mu → Prop} {pos : Pos}
/-! ### a text's signs -/
def signsD (x : Str) : List D := x.cps.toList.map fun c => .str ⟨#[c]⟩
theorem itOk_str {K : PySem.W.Frag} {F : Hp} {x : Str} : ItOk K (Its x) (signsD x) (fun _ => True) F where
  go := fun Γ hK i F2 δ μ σ H s a2 _ d hd => by
    unfold signsD at hd
    rw [List.getElem?_map] at hd
    cases e : x.cps.toList[i]? with
    | none => rw [e] at hd; cases hd
    | some c =>
      rw [e] at hd
      cases hd
      have hc : x.cps[i]? = some c := by simpa using e
      refine ⟨(Array.getElem?_eq_some_iff.mp hc).1, fun v H' y => ?_⟩
      obtain ⟨rfl, c', hc', rfl⟩ := y
      rw [hc] at hc'
      cases hc'
      exact ⟨F2, Same.refl _, a2, by rw [Dp]⟩
  stop := fun Γ hK i F2 δ μ σ H s a2 _ hi => by
    unfold signsD at hi
    rw [List.length_map] at hi
    show x.cps.size ≤ i
    simpa using hi
theorem itf_str {X : Cx} {tg : Expr} {x : Str} {H : Hp} {R : It → Hp → Prop} (q : R (Its x) H) : itf X tg (.str x) H R := fun pins s σ v I1 r1 => by
  obtain ⟨t, rfl⟩ := r1
  cases ha : x.cps.all (· < 128)
  · exact wpAny_pyIter_wide ha (pi_one (tk := s.toks) I1 _ (turn_str _ x t "str_iterator" (.inr rfl)) ⟨_, Heap.get?_push_size _ rfl, rfl, rfl⟩ q)
  · exact wpAny_pyIter_ascii ha (pi_one (tk := s.toks) I1 _ (turn_str _ x t "str_ascii_iterator" (.inl rfl)) ⟨_, Heap.get?_push_size _ rfl, rfl, rfl⟩ q)
theorem itd_str {tg : Expr} {x : Str} (q : R (signsD x) (fun _ => True) μ) : itd Γ tg (.str x) δ μ R := fun F σ H v a r => by
  rw [Dp] at r
  subst r
  exact itf_str ⟨F, _, _, μ, Same.refl F, a, itOk_str, q⟩
end
section
variable {Γ : Ct} {δ : Dl} {μ : Mu} {Q : D → Mu → Prop}
theorem opd_inSign {c : Nat} {z : Str} (q : Q (.bl (decide (c ∈ z.cps.toList))) μ) : opd Γ (compareOp .In) (.str ⟨#[c]⟩) (.str z) δ μ Q := opd_of op_in_sign fun F σ H vx vy a r1 r2 => by
  rw [Dp] at r1 r2
  subst r1 r2
  exact ⟨c, z, rfl, rfl, PostE.here a dpb q⟩
theorem cld_strS {x : Str} (q : Q (.str x) μ) : cld Γ (.type "str") [.str x] δ μ Q := cld_of SkE.call_str_str fun F σ H vs a r0 => by
  obtain ⟨v, rfl, r⟩ := r0.one
  rw [Dp] at r
  subst r
  exact ⟨x, rfl, PostE.here a (by rw [Dp]) q⟩
end
section
variable {Γ : Ct} {δ : Dl} {μ : Mu} {a b c : Expr} {pos : Pos}
/-- a < b < c as a test -/
theorem et_chain {op op' : CmpOp} {Q : Bool → Mu → Prop} (h : ed Γ a δ μ fun x μ1 => ed Γ b δ μ1 fun y μ2 => opd Γ (compareOp op) x y δ μ2 fun d μ3 => ∃ k, d = .bl k ∧ if k = true then ed Γ c δ μ3 fun z μ4 => opd Γ (compareOp op') y z δ μ4 (fun d μ5 => ∃ k, d = .bl k ∧ Q k μ5) else Q false μ3)
    (hm : lastMarks [op, op'] [b, c] = false := by with_unfolding_all rfl) : et Γ (.Compare a [op, op'] [b, c] pos) δ μ Q := fun F σ H at_ => by
  refine wt_of (pt_chain rwf_ok rwf_ok pe_we pe_we pe_we hm) ?_
  refine we_mono (h F σ H at_) fun x H1 ⟨F1, d1, μ1, s1, h1, r1, q1⟩ => ?_
  refine we_mono (q1 F1 σ H1 h1) fun y H2 ⟨F2, d2, μ2, s2, h2, r2, q2⟩ => ?_
  refine rwf_mono (q2 F2 σ H2 x y h2 (r1.mono s2) r2) fun v H3 ⟨F3, d3, μ3, s3, h3, r3, k, e3, q3⟩ => ?_
  subst e3
  rw [Dp] at r3
  refine ⟨k, r3, ?_⟩
  cases k with
  | true =>
    rw [if_pos rfl] at q3 ⊢
    refine we_mono (q3 F3 σ H3 h3) fun z H4 ⟨F4, d4, μ4, s4, h4, r4, q4⟩ => ?_
    refine rwf_mono (q4 F4 σ H4 y z h4 ((r2.mono s3).mono s4) r4) fun v5 H5 ⟨F5, d5, μ5, s5, h5, r5, k5, e5, q5⟩ => ?_
    subst e5
    rw [Dp] at r5
    exact ⟨k5, r5, F5, μ5, (((s1.trans s2).trans s3).trans s4).trans s5, h5, q5⟩
  | false =>
    rw [if_neg Bool.false_ne_true] at q3 ⊢
    exact ⟨false, rfl, F3, μ3, (s1.trans s2).trans s3, h3, q3⟩
end
end PD
/-! PD24: C() -/
namespace PD
open PySem PySem.Spec PyProof.Rows L2
end PD
/-! PD25: own + and *, in place; own order; tuple * int. -/
namespace PD
open PySem PySem.Spec PyProof.Rows L2
/-! ### the rules -/
section
variable {Γ : Ct} {δ : Dl} {μ : Mu} {Q : D → Mu → Prop} {k j n : Nat} {f g C : Addr} {sp : SpD} {dds : List D} {x y : D} {op : Operator}
/-! ### name op= e -/
/-- list * int -/
theorem opd_repL {xs : List D} {i : Int} (h0 : -(2 ^ 63) ≤ i) (h1 : i < 2 ^ 63) (hl : xs.length * i.toNat ≤ sizeLine) (q : Q (.lst (List.replicate i.toNat xs).flatten) μ) : opd Γ (binaryOp .Mult) (.lst xs) (.int i) δ μ Q := opd_of op_rep fun F σ H vx vy a r1 r2 => by
  obtain ⟨p1, vs, rfl, e1, e2⟩ := dpL r1
  have e := dpI r2
  subst e
  refine ⟨p1, i, vs, rfl, rfl, a.sx.sub _ _ e1, h0, h1, by rw [← e2.length]; exact hl, fun p hp => ?_⟩
  have sF := same_upd (o := HO.lst (List.replicate i.toNat vs).flatten) (a.sx.sub.free hp)
  refine PostE.new a hp (dpl upd_same (Dps.mono sF ?_)) q
  generalize i.toNat = m
  induction m with
  | zero => exact Dps.nil
  | succ m ih =>
    rw [List.replicate_succ, List.replicate_succ, List.flatten_cons, List.flatten_cons]
    exact e2.append ih
end
end PD
/-! PD26: tuple * int, any tuple and number. -/
namespace PD
open PySem PySem.Spec PyProof.Rows L2
end PD
/-! PD27: facts for own operators by the methods. -/
namespace PD
open PySem PySem.Spec PyProof.Rows L2
end PD
/-! PD28: dicts whose keys are ints and texts, owned. -/
namespace PD
open PySem PySem.Spec PyProof.Rows L2
abbrev Dic := List (Key × D)
def dic (kvs : Dic) : Cell := .dK (kvs.map (·.1)) (kvs.map (·.2))
def valY (kvs : Dic) (k : Key) : Option D := (kvs.find? fun kv => decide (kv.1 = k)).map (·.2)
def putY (kvs : Dic) (k : Key) (d : D) : Dic := if (kvs.any fun kv => decide (kv.1 = k)) = true then kvs.map (fun kv => if kv.1 = k then (kv.1, d) else kv) else kvs ++ [(k, d)]
def dropY (kvs : Dic) (k : Key) : Dic := kvs.filter fun kv => decide (kv.1 ≠ k)
def KVd (K : PySem.W.Frag) (F : Hp) : Dic → List (Key × V) → Prop
  | [], gs => gs = []
  | p :: r, gs => ∃ q t, gs = q :: t ∧ q.1 = p.1 ∧ Dp K F p.2 q.2 ∧ KVd K F r t
section
variable {K : PySem.W.Frag} {F F' : Hp}
theorem kvd_of : ∀ {kvs : Dic} {gs : List (Key × V)}, gs.map (·.1) = kvs.map (·.1) → Dps K F (kvs.map (·.2)) (gs.map (·.2)) → KVd K F kvs gs
  | [], gs, h, _ => by simpa [KVd] using h
  | p :: r, [], h, _ => by simp at h
  | p :: r, q :: t, h, hd => by
    rw [List.map_cons, List.map_cons] at h hd
    obtain ⟨v, ws, e, h1, h2⟩ := hd.uncons
    injection e with e1 e2
    injection h with h3 h4
    subst e1 e2
    exact ⟨q, t, rfl, h3, h1, kvd_of h4 h2⟩
theorem KVd.keys : ∀ {kvs : Dic} {gs : List (Key × V)}, KVd K F kvs gs → gs.map (·.1) = kvs.map (·.1)
  | [], gs, h => by cases (show gs = [] from h); rfl
  | p :: r, gs, h => by
    obtain ⟨q, t, rfl, h1, _, h3⟩ := (show ∃ q t, gs = q :: t ∧ q.1 = p.1 ∧ Dp K F p.2 q.2 ∧ KVd K F r t from h)
    rw [List.map_cons, List.map_cons, h1, KVd.keys h3]
theorem KVd.vals : ∀ {kvs : Dic} {gs : List (Key × V)}, KVd K F kvs gs → Dps K F (kvs.map (·.2)) (gs.map (·.2))
  | [], gs, h => by cases (show gs = [] from h); exact Dps.nil
  | p :: r, gs, h => by
    obtain ⟨q, t, rfl, _, h2, h3⟩ := (show ∃ q t, gs = q :: t ∧ q.1 = p.1 ∧ Dp K F p.2 q.2 ∧ KVd K F r t from h)
    rw [List.map_cons, List.map_cons]
    exact Dps.cons h2 (KVd.vals h3)
theorem KVd.length {kvs : Dic} {gs : List (Key × V)} (h : KVd K F kvs gs) : kvs.length = gs.length := by
  have := congrArg List.length h.keys
  rw [List.length_map, List.length_map] at this
  exact this.symm
theorem KVd.any (k : Key) : ∀ {kvs : Dic} {gs : List (Key × V)}, KVd K F kvs gs → (gs.any fun kv => decide (kv.1 = k)) = kvs.any fun kv => decide (kv.1 = k)
  | [], gs, h => by cases (show gs = [] from h); rfl
  | p :: r, gs, h => by
    obtain ⟨q, t, rfl, h1, _, h3⟩ := (show ∃ q t, gs = q :: t ∧ q.1 = p.1 ∧ Dp K F p.2 q.2 ∧ KVd K F r t from h)
    rw [List.any_cons, List.any_cons, h1, KVd.any k h3]
theorem KVd.val (k : Key) : ∀ {kvs : Dic} {gs : List (Key × V)}, KVd K F kvs gs → (∀ d, valY kvs k = some d → ∃ v, valV gs k = some v ∧ Dp K F d v) ∧ (valY kvs k = none → valV gs k = none)
  | [], gs, h => by cases (show gs = [] from h); exact ⟨(fun d e => nomatch e), fun _ => rfl⟩
  | p :: r, gs, h => by
    obtain ⟨q, t, rfl, h1, h2, h3⟩ := (show ∃ q t, gs = q :: t ∧ q.1 = p.1 ∧ Dp K F p.2 q.2 ∧ KVd K F r t from h)
    have ih := KVd.val k h3
    by_cases e : p.1 = k
    · have e1 : valY (p :: r) k = some p.2 := by simp [valY, List.find?_cons, e]
      have e2 : valV (q :: t) k = some q.2 := valV_pos (h1.trans e)
      rw [e1, e2]
      exact ⟨fun d z => by cases z; exact ⟨q.2, rfl, h2⟩, fun z => nomatch z⟩
    · have e1 : valY (p :: r) k = valY r k := by simp [valY, List.find?_cons, e]
      have e2 : valV (q :: t) k = valV t k := valV_neg (fun z => e (h1.symm.trans z))
      rw [e1, e2]
      exact ih
theorem KVd.snoc {k : Key} {d : D} {v : V} (r : Dp K F d v) : ∀ {kvs : Dic} {gs : List (Key × V)}, KVd K F kvs gs → KVd K F (kvs ++ [(k, d)]) (gs ++ [(k, v)])
  | [], gs, h => by cases (show gs = [] from h); exact ⟨_, _, rfl, rfl, r, rfl⟩
  | p :: r', gs, h => by
    obtain ⟨q, t, rfl, h1, h2, h3⟩ := (show ∃ q t, gs = q :: t ∧ q.1 = p.1 ∧ Dp K F p.2 q.2 ∧ KVd K F r' t from h)
    exact ⟨q, _, rfl, h1, h2, KVd.snoc r h3⟩
theorem KVd.over {k : Key} {d : D} {v : V} (r : Dp K F d v) : ∀ {kvs : Dic} {gs : List (Key × V)}, KVd K F kvs gs → KVd K F (kvs.map fun kv => if kv.1 = k then (kv.1, d) else kv) (gs.map fun kv => if kv.1 = k then (kv.1, v) else kv)
  | [], gs, h => by cases (show gs = [] from h); rfl
  | p :: r', gs, h => by
    obtain ⟨q, t, rfl, h1, h2, h3⟩ := (show ∃ q t, gs = q :: t ∧ q.1 = p.1 ∧ Dp K F p.2 q.2 ∧ KVd K F r' t from h)
    refine ⟨_, _, rfl, ?_, ?_, KVd.over r h3⟩
    · show (if q.1 = k then (q.1, v) else q).1 = (if p.1 = k then (p.1, d) else p).1
      rw [h1]; split <;> first | rfl | exact h1
    · show Dp K F (if p.1 = k then (p.1, d) else p).2 (if q.1 = k then (q.1, v) else q).2
      rw [h1]; split <;> first | exact r | exact h2
theorem KVd.put {kvs : Dic} {gs : List (Key × V)} (h : KVd K F kvs gs) (k : Key) {d : D} {v : V} (r : Dp K F d v) : KVd K F (putY kvs k d) (putK gs k v) := by
  unfold putY putK
  rw [h.any k]
  split
  · exact h.over r
  · exact h.snoc r
theorem KVd.drop (k : Key) : ∀ {kvs : Dic} {gs : List (Key × V)}, KVd K F kvs gs → KVd K F (dropY kvs k) (dropK gs k)
  | [], gs, h => by cases (show gs = [] from h); rfl
  | p :: r, gs, h => by
    obtain ⟨q, t, rfl, h1, h2, h3⟩ := (show ∃ q t, gs = q :: t ∧ q.1 = p.1 ∧ Dp K F p.2 q.2 ∧ KVd K F r t from h)
    have ih := KVd.drop k h3
    unfold dropY dropK at ih ⊢
    rw [List.filter_cons, List.filter_cons, h1]
    split
    · exact ⟨q, _, rfl, h1, h2, ih⟩
    · exact ih
end
/-! ### a dict that stands in a cell -/
def DicAt (μ : Mu) (p : Addr) (kvs : Dic) : Prop := (p, dic kvs) ∈ μ ∨ ∃ od gs, (p, Cell.dF od gs (kvs.map (·.2))) ∈ μ ∧ gs.map (·.1) = kvs.map (·.1)
section
variable {Γ : Ct} {δ : Dl} {μ : Mu} {Q : D → Mu → Prop} {p : Addr} {kvs : Dic} {k : Key} {d : D} {μ1 μ2 : Mu} {F H : Hp} {σ : L2.St} {pos : Pos}
theorem cell_dic (a : At Γ F δ μ σ H) (h : (p, dic kvs) ∈ μ) : ∃ gs, H p = some (.dK gs) ∧ KVd Γ.X.K F kvs gs := by
  obtain ⟨gs, h1, h2, h3⟩ := a.sx.cells _ h
  exact ⟨gs, h1, kvd_of h2 h3⟩
theorem dicAt (a : At Γ F δ μ σ H) (h : DicAt μ p kvs) : ∃ gs, Rd H p (.dK gs) ∧ KVd Γ.X.K F kvs gs := by
  rcases h with h | ⟨od, gs, h, e⟩
  · obtain ⟨gs, h1, h2⟩ := cell_dic a h
    exact ⟨gs, .inl h1, h2⟩
  · obtain ⟨h1, h2⟩ := a.sx.cells _ h
    exact ⟨gs, .inr ⟨od, h1⟩, kvd_of e h2⟩
theorem cld_len_Y (h : DicAt μ p kvs) (q : Q (.int (kvs.length : Nat)) μ) : cld Γ (.builtin "len") [.ref p] δ μ Q := fun F σ H vs a r0 pins s σ' us I q1 => by
  obtain ⟨gs, h1, h2⟩ := dicAt a h
  obtain ⟨v, ws, rfl, r1, r2⟩ := r0.uncons
  obtain rfl := r2.unnil
  have e := dpR r1
  subst e
  obtain ⟨u, rfl, ru⟩ := q1.one
  obtain rfl : u = Value.ref p := ru
  refine d_len I h1 fun t s' I' => ⟨.int (gs.length : Nat), H, I', ⟨t, rfl⟩, ?_⟩
  rw [← h2.length]
  exact PostE.here a (d := .int (kvs.length : Nat)) (by rw [Dp]) q
/-! ### a dict is locked while it is walked -/
end
end PD
/-! PD29: walks over a locked dict. -/
namespace PD
open PySem PySem.Spec PyProof.Rows L2
/-! ### a statement while a dict is locked -/
end PD
/-! PD30: set(a list of ints), sorted of it. -/
namespace PD
open PySem PySem.Spec PyProof.Rows L2
end PD
/-! PD31: [elt for tg in iter if .. for tg1 in iter1 if ..]. -/
namespace PD
open PySem PySem.Spec PyProof.Rows L2
end PD
/-! PD32: *d of a dict; int(x), parts of slices as tests; other small rules. -/
namespace PD
open PySem PySem.Spec PyProof.Rows L2
end PD
/-! PD33: properties read. -/
namespace PD
open PySem PySem.Spec PyProof.Rows L2
end PD
/-! PD34: len of an own thing; own [ ]. -/
namespace PD
open PySem PySem.Spec PyProof.Rows L2
end PD
/-! PD35: numbers in lists: pop at a place, count, index, in; list(range(n)). -/
namespace PD
open PySem PySem.Spec PyProof.Rows L2
section
variable {Γ : Ct} {δ : Dl} {μ μ1 μ2 : Mu} {Q : D → Mu → Prop} {p : Addr}
theorem opd_inI {n : Int} {y : D} {xs : List D} (ns : List Int) (hs : SeqD μ y xs) (e : xs = ns.map .int) (q : Q (.bl (decide (n ∈ ns))) μ) : opd Γ (compareOp .In) (.int n) y δ μ Q := by
  subst e; exact opd_in hs rfl (PD.flat_ints ns) (by rw [inD_int]; exact q)
theorem opd_notInI {n : Int} {y : D} {xs : List D} (ns : List Int) (hs : SeqD μ y xs) (e : xs = ns.map .int) (q : Q (.bl (!decide (n ∈ ns))) μ) : opd Γ (compareOp .NotIn) (.int n) y δ μ Q := by
  subst e; exact opd_notIn hs rfl (PD.flat_ints ns) (by rw [inD_int]; exact q)
end
theorem isList_of {h : Heap} {a : Addr} {its : Array Value} (p : PlainL h a its) : h.IsList a its := by
  obtain ⟨o, n, h1, h2, h3, h4⟩ := p
  exact ⟨o, h1, h2, n, h4⟩
/-- xs != [], whatever the items -/
theorem opd_neNil {Γ : Ct} {δ : Dl} {μ : Mu} {Q : D → Mu → Prop} {xs : List D} (hu : Γ.X.A.units < cLine) (q : Q (.bl (!xs.isEmpty)) μ) : opd Γ (compareOp .NotEq) (.lst xs) (.lst []) δ μ Q := fun F σ H vx vy a r1 r2 pins s σ' v u I q1 q2 => by
  obtain ⟨p1, vs, rfl, g1, g2⟩ := dpL r1
  obtain ⟨p2, ws, rfl, g3, g4⟩ := dpL r2
  obtain rfl := g4.unnil
  obtain rfl : v = Value.ref p1 := q1
  obtain rfl : u = Value.ref p2 := q2
  obtain ⟨its, rv, hl, _⟩ := I.list (.inl (.inl (a.sx.sub _ _ g1)))
  obtain ⟨its2, rv2, hb, _⟩ := I.list (.inl (.inl (a.sx.sub _ _ g3)))
  obtain rfl : its2 = [] := by cases rv2; rfl
  have hn : xs.length = its.length := g2.length.trans rv.length
  refine PySem.W.cmp_ofNotEq ?_
  cases its with
  | nil =>
    have e : xs = [] := by cases xs with | nil => rfl | cons _ _ => cases hn
    subst e
    exact PySem.SeqAt.RcNeAt.lists (e := fun _ => true) (isList_of hl) (isList_of hb) rfl hu (fun j h1 _ => absurd h1 (Nat.not_lt_zero _)) _ _ _ _ ⟨.bl false, H, I, rfl, PostE.here a dpb q⟩
  | cons i its =>
    have e : xs.isEmpty = false := by cases xs with | nil => cases hn | cons _ _ => rfl
    rw [e] at q
    exact PySem.SeqAt.RcNeAt.lists_lengths (isList_of hl) (isList_of hb) (by simp) hu _ _ _ _ ⟨.bl true, H, I, rfl, PostE.here a dpb q⟩
theorem ga_same {K K' : PySem.W.Frag} {x : Str} (h : K = K') : He.ga K x = He.ga K' x := by rw [h]
theorem bb_IndexError : bootBuiltins "IndexError" = some (.type "IndexError") := by decide +kernel
theorem bb_ValueError : bootBuiltins "ValueError" = some (.type "ValueError") := by decide +kernel
end PD
/-! PD36: own [ ] that may raise. -/
namespace PD
open PySem PySem.Spec PyProof.Rows L2
end PD
/-! PD37: try .. except X: raise C(e) from None. -/
namespace PD
open PySem PySem.Spec PyProof.Rows L2
/-- what may leave a def goes on by its own way out -/
def OutOf (X : Cx) : Prop := ∃ (K : Value → Shared → Prop) (E₁ : Value → Shared → Prop), X.xe = fun e s' => wpAny (model X.prog X.w) X.A (leaving X.env e) (fun _ s'' => K e s'') E₁ s'
theorem OutOf.at_ {X : Cx} (o : OutOf X) (hd : Option Value) : PassesOwnAt (model X.prog X.w) (X.A.mark hd) X.A X.env X.xe := by
  obtain ⟨K, E, e⟩ := o
  exact L2H.passesAt_of e hd
theorem OutOf.here {X : Cx} (o : OutOf X) (hd : Option Value) : PassesOwn (model X.prog X.w) (X.A.mark hd) X.env X.xe := by
  obtain ⟨K, E, e⟩ := o
  rw [e]
  exact PassesOwnAt.leavingOf (SameStack.mark X.A hd)
end PD
/-! PD38: repr of plain data. -/
namespace PD
open PySem PySem.Spec PyProof.Rows L2
mutual
/-- plain data as the kit's reading of a value -/
def pyD : D → Option PyData
  | .non => some .none
  | .bl b => some (.bool b)
  | .int i => some (.int i)
  | .str x => some (.str x)
  | .lst xs => (pyDs xs).map .list
  | .rl xs => (pyDs xs).map .list
  | .tup xs => (pyDs xs).map .tuple
  | _ => none
def pyDs : List D → Option (List PyData)
  | [] => some []
  | x :: xs => match pyD x, pyDs xs with | some p, some ps => some (p :: ps) | _, _ => none
end
theorem pyDs_cons {x : D} {xs : List D} {ps : List PyData} (h : pyDs (x :: xs) = some ps) : ∃ p qs, pyD x = some p ∧ pyDs xs = some qs ∧ ps = p :: qs := by
  rw [pyDs] at h
  split at h
  · cases h; exact ⟨_, _, ‹_›, ‹_›, rfl⟩
  · cases h
section
variable {X : Cx} {pins : List (Addr × Obj)} {σ : L2.St} {F H : Hp} {s : Shared}
mutual
theorem reads_of (I : Inv X pins σ H s) (e : Same F H) : ∀ {d : D} {v : V} {u : Value} {p : PyData}, Dp X.K F d v → RelV v u → pyD d = some p → ∃ as, Reads s.heap u p as
  | .non, v, u, p, h, r, hp => by
    rw [Dp] at h; subst h; cases hp; cases r; exact ⟨_, .none⟩
  | .bl b, v, u, p, h, r, hp => by
    rw [Dp] at h; subst h; cases hp; cases r; exact ⟨_, .bool b⟩
  | .int i, v, u, p, h, r, hp => by
    rw [Dp] at h; subst h; cases hp; obtain ⟨t, rfl⟩ := r; exact ⟨_, .int i t⟩
  | .str x, v, u, p, h, r, hp => by
    rw [Dp] at h; subst h; cases hp; obtain ⟨t, rfl⟩ := r; exact ⟨_, .str x t⟩
  | .lst xs, v, u, p, h, r, hp => by
    rw [pyD] at hp
    cases e1 : pyDs xs with
    | none => rw [e1] at hp; cases hp
    | some ps =>
      rw [e1] at hp; cases hp
      rw [Dp] at h
      obtain ⟨a, vs, rfl, h2, h3⟩ := h
      cases r
      obtain ⟨its, rv, ⟨o, n, g1, g2, g3, g4⟩, hz⟩ := I.list (a := a) (xs := vs) (.inl (.inl (e _ _ h2)))
      obtain ⟨as, ra⟩ := readsAll_of I e h3 rv e1
      exact ⟨_, .list g1 g2 g4 (by simpa using ra)⟩
  | .rl xs, v, u, p, h, r, hp => by
    rw [pyD] at hp
    cases e1 : pyDs xs with
    | none => rw [e1] at hp; cases hp
    | some ps =>
      rw [e1] at hp; cases hp
      rw [Dp] at h
      obtain ⟨a, vs, rfl, h2, h3⟩ := h
      cases r
      obtain ⟨its, rv, ⟨o, n, g1, g2, g3, g4⟩, hz⟩ := I.list (a := a) (xs := vs) (e.seq h2)
      obtain ⟨as, ra⟩ := readsAll_of I e h3 rv e1
      exact ⟨_, .list g1 g2 g4 (by simpa using ra)⟩
  | .tup xs, v, u, p, h, r, hp => by
    rw [pyD] at hp
    cases e1 : pyDs xs with
    | none => rw [e1] at hp; cases hp
    | some ps =>
      rw [e1] at hp; cases hp
      rw [Dp] at h
      obtain ⟨a, vs, rfl, h2, h3⟩ := h
      cases r
      obtain ⟨its, rv, ⟨o, g1, g2, n, g4⟩, hz⟩ := I.tuple (a := a) (xs := vs) (Same.sqT e h2)
      obtain ⟨as, ra⟩ := readsAll_of I e h3 rv e1
      exact ⟨_, .tuple g1 g2 g4 (by simpa using ra)⟩
  | .ty _, v, u, p, h, r, hp => by rw [pyD] at hp <;> cases hp
  | .ref _, v, u, p, h, r, hp => by rw [pyD] at hp <;> cases hp
  | .obj _ _ _, v, u, p, h, r, hp => by rw [pyD] at hp <;> cases hp
  | .dK _ _, v, u, p, h, r, hp => by rw [pyD] at hp <;> cases hp
  | .slc _ _ _, v, u, p, h, r, hp => by rw [pyD] at hp <;> cases hp
  | .exv _ _ _, v, u, p, h, r, hp => by rw [pyD] at hp <;> cases hp
theorem readsAll_of (I : Inv X pins σ H s) (e : Same F H) : ∀ {ds : List D} {vs : List V} {us : List Value} {ps : List PyData}, Dps X.K F ds vs → Vals vs us → pyDs ds = some ps → ∃ as, ReadsAll s.heap us ps as
  | [], vs, us, ps, h, r, hp => by
    rw [h.unnil] at r; cases r; rw [pyDs] at hp; cases hp; exact ⟨_, .nil⟩
  | d :: ds, vs, us, ps, h, r, hp => by
    obtain ⟨v, ws, rfl, h1, h2⟩ := h.uncons
    obtain ⟨p, qs, e1, e2, rfl⟩ := pyDs_cons hp
    cases r with
    | cons r1 rs =>
      obtain ⟨as, ra⟩ := reads_of I e h1 r1 e1
      obtain ⟨bs, rb⟩ := readsAll_of I e h2 rs e2
      exact ⟨_, .cons ra rb⟩
end
end
mutual
theorem pyD_noDict : ∀ {d : D} {p : PyData}, pyD d = some p → p.hasDict = false
  | .non, p, h => by rw [pyD] at h; cases h; rw [PyData.hasDict]
  | .bl _, p, h => by rw [pyD] at h; cases h; rw [PyData.hasDict]
  | .int _, p, h => by rw [pyD] at h; cases h; rw [PyData.hasDict]
  | .str _, p, h => by rw [pyD] at h; cases h; rw [PyData.hasDict]
  | .lst xs, p, h => by
    rw [pyD] at h
    cases e1 : pyDs xs with
    | none => rw [e1] at h; cases h
    | some ps => rw [e1] at h; cases h; rw [PyData.hasDict]; exact pyDs_noDict e1
  | .rl xs, p, h => by
    rw [pyD] at h
    cases e1 : pyDs xs with
    | none => rw [e1] at h; cases h
    | some ps => rw [e1] at h; cases h; rw [PyData.hasDict]; exact pyDs_noDict e1
  | .tup xs, p, h => by
    rw [pyD] at h
    cases e1 : pyDs xs with
    | none => rw [e1] at h; cases h
    | some ps => rw [e1] at h; cases h; rw [PyData.hasDict]; exact pyDs_noDict e1
  | .ty _, p, h => by rw [pyD] at h <;> cases h
  | .ref _, p, h => by rw [pyD] at h <;> cases h
  | .obj _ _ _, p, h => by rw [pyD] at h <;> cases h
  | .dK _ _, p, h => by rw [pyD] at h <;> cases h
  | .slc _ _ _, p, h => by rw [pyD] at h <;> cases h
  | .exv _ _ _, p, h => by rw [pyD] at h <;> cases h
theorem pyDs_noDict : ∀ {ds : List D} {ps : List PyData}, pyDs ds = some ps → PyData.hasDictAll ps = false
  | [], ps, h => by rw [pyDs] at h; cases h; rw [PyData.hasDictAll]
  | d :: ds, ps, h => by
    obtain ⟨p, qs, e1, e2, rfl⟩ := pyDs_cons h
    rw [PyData.hasDictAll, pyD_noDict e1, pyDs_noDict e2]; rfl
end
section
variable {Γ : Ct} {δ : Dl} {μ : Mu} {Q : D → Mu → Prop} {k : Nat}
/-- repr of a list or a tuple of plain things -/
theorem cld_reprS (hr : Room k Γ.X.A) {d : D} {p : PyData} (hp : pyD d = some p) (hq : (∃ xs, d = .tup xs) ∨ (∃ xs, d = .lst xs) ∨ ∃ xs, d = .rl xs) (hs : p.showable = true) (hd : p.depth ≤ 60) (hz : p.shown.length ≤ sizeLine) (q : Q (.str p.shown) μ) :
    cld Γ (.builtin "repr") [d] δ μ Q := fun F σ H vs a r0 pins s σ' us I rs => by
  obtain ⟨v, rfl, r⟩ := r0.one
  cases rs with
  | cons r1 rs =>
    cases rs
    obtain ⟨as, rd⟩ := reads_of I a.sx.sub r r1 hp
    obtain ⟨b, rfl⟩ : ∃ b, v = .ref b := by
      rcases hq with ⟨xs, rfl⟩ | ⟨xs, rfl⟩ | ⟨xs, rfl⟩ <;> (rw [Dp] at r; obtain ⟨b, _, e, _⟩ := r; exact ⟨b, e⟩)
    cases r1
    refine repr_of_reads' rd hs (PyData.noDict_hsm (pyD_noDict hp)) hr.gd (by have := hr.units; omega) (fun _ _ e => e) (fun h' u tk hk => ?_) hz
    exact ⟨.str p.shown, H, I.kept hk, ⟨u, rfl⟩, PostE.here a (by rw [Dp]) q⟩
theorem cld_reprI {i : Int} (h : i.natAbs.log2 < 1920) (q : Q (.str (Str.ofString (toString i))) μ) : cld Γ (.builtin "repr") [.int i] δ μ Q := cld_of SkE.call_repr_int fun F σ H vs a r0 => by
  obtain ⟨v, rfl, r⟩ := r0.one
  rw [Dp] at r
  subst r
  exact ⟨i, rfl, h, PostE.here a (by rw [Dp]) q⟩
end
end PD
/-! PD39: displays of dicts with keys that are numbers and texts. -/
namespace PD
open PySem PySem.Spec PyProof.Rows L2
end PD
/-! PD40: xs.extend(tuple). -/
namespace PySem
end PySem
namespace PD
open PySem PySem.Spec PyProof.Rows L2
end PD
/-! PD41: slices with steps, slice objects handed to own [ ]. -/
namespace PDS
open PySem PySem.Spec PyProof.Rows
end PDS
/-! ### the class of a slice object -/
namespace PDS
open PySem
end PDS
namespace PD
open PySem PySem.Spec PyProof.Rows L2 PDS
/-- a part of a slice: None or a number -/
def PartD (d : D) (o : Option Int) : Prop := (d = .non ∧ o = none) ∨ ∃ i, d = .int i ∧ o = some i
def ep (Γ : Ct) (e : Option Expr) (δ : Dl) (μ : Mu) (Q : Option Int → Mu → Prop) : Prop := match e with
  | none => Q none μ
  | some e => ed Γ e δ μ fun d μ' => ∃ o, PartD d o ∧ Q o μ'
end PD
/-! PD42: own [ ] with slices. -/
namespace PD
open PySem PySem.Spec PyProof.Rows L2 PDS
/-! ### what a slice takes -/
end PD
/-! PD43: match on a text, with texts and _ as patterns. -/
namespace PD
open PySem PySem.Spec PyProof.Rows L2
end PD
/-! PD44: instances that stay owned. -/
namespace PD
open PySem PySem.Spec PyProof.Rows L2
end PD
/-! PD45: o.f op= e, o owned. -/
namespace PD
open PySem PySem.Spec PyProof.Rows L2
end PD
/-! PD46: list(d.values()), list(d.items()). -/
namespace PD
open PySem PySem.Spec PyProof.Rows L2
end PD
/-! PD47: cells in another order. -/
namespace PD
end PD
/-! PD48: a call of an own thing that has __call__. -/
namespace PD
open PySem PySem.Spec PyProof.Rows L2
end PD
/-! PD49: a text no times or once. -/
namespace PD
open PySem PySem.Spec PyProof.Rows L2
end PD
/-! PD50: a comprehension without a condition: as many things as there were. -/
namespace PD
open PySem PySem.Spec PyProof.Rows L2
end PD
/-! PD51: sorted(set(..)) of many ints with few members. -/
namespace PD
open PySem PySem.Spec PyProof.Rows L2
end PD
/-! PD52: a call of an own thing that has __call__, told by any expression. -/
namespace PD
open PySem PySem.Spec PyProof.Rows L2
end PD
/-! PD53: sorted of a list of texts, of ints. -/
namespace PD
open PySem PySem.Spec PyProof.Rows L2
/-! two ascending lists of the same texts are the same -/
end PD
/-! PD54: dict comprehensions. -/
namespace PD
open PySem PySem.Spec PyProof.Rows L2
section
variable {Γ : Ct} {kx vx tg iter : Expr} {ifs : List Expr} {scope : Scope} {own : List (Str × Nat)} {pos : Pos} {δ : Dl} {μ : Mu}
theorem KVd.mono {K : PySem.W.Frag} {F F' : Hp} {kvs : Dic} {gs : List (Key × V)} (h : KVd K F kvs gs) (s : Same F F') : KVd K F' kvs gs := kvd_of h.keys (h.vals.mono s)
structure DcAt (Γ : Ct) (F1 : Hp) (δ : Dl) (σ : L2.St) (Da : Addr) (acc : Dic) (μ : Mu) (H F : Hp) : Prop where
  sm : Same F1 F
  at_ : At Γ F δ μ σ H
  ls : ∃ gs, H Da = some (.dK gs) ∧ KVd Γ.X.K F acc gs
  f : F Da = none
  m : Da ∉ dom μ
theorem DcAt.step {F1 F F2 H H2 : Hp} {σ : L2.St} {Da : Addr} {acc : Dic} {μ μ2 : Mu} (L : DcAt Γ F1 δ σ Da acc μ H F) (st : Step F μ H F2 μ2 H2) (sx : Sx Γ.X.K F2 μ2 H2) : DcAt Γ F1 δ σ Da acc μ2 H2 F2 := by
  obtain ⟨vs, h1, h2⟩ := L.ls
  refine ⟨L.sm.trans st.ext, ⟨L.at_.st.trans st, sx, L.at_.fr.mono st.ext⟩, ⟨vs, st.keep _ _ h1 L.m, h2.mono st.ext⟩, ?_, fun hm => ?_⟩
  · cases e : F2 Da with
    | none => rfl
    | some o =>
      rcases st.new _ _ e L.f with q | q
      · rw [h1] at q; cases q
      · exact absurd q L.m
  · rcases st.cell _ hm with q | q
    · exact L.m q
    · rw [h1] at q; cases q
end
end PD
/-! PD55: what the top has written, looked at in pieces. -/
namespace PD
open PySem PySem.Spec PyProof.Rows L2 PySem.W HandSHeadRun
/-- what the top has written, seen at told addresses -/
def obsL (as : List Addr) (fa : List He.Fa) (fn : List He.DefD) (fx : List He5.DefA) (ts : List He.Tab) (ex : PySem.W.Frag → Bool) (g : Addr → Option Obj) : AlP := sayP fa fn fx ts ex (He.frT g as)
def hookL (as : List Addr) (fa : List He.Fa) (fn : List He.DefD) (fx : List He5.DefA) (ts : List He.Tab) (ex : PySem.W.Frag → Bool) : PySem.W.Hook where
  α := AlP
  obs := fun s => obsL as fa fn fx ts ex s.heap.get?
  val := fun w => valP fn fx ts w
  says := fun w h => ∃ K : PySem.W.Frag, K.In h ∧ sayP fa fn fx ts ex K = valP fn fx ts w
  of := fun _ _ e => ⟨_, He.frT_in, e⟩
  keeps := fun _ _ _ ⟨K, hK, c⟩ k => ⟨K, PySem.W.Frag.In.keeps hK k, c⟩
theorem obsL_eq {as : List Addr} {fa : List He.Fa} {fn : List He.DefD} {fx : List He5.DefA} {ts : List He.Tab} {ex : PySem.W.Frag → Bool} {g : Addr → Option Obj} {s : Shared} (h : ∀ a, g a = s.heap.get? a) : obsL as fa fn fx ts ex g = (hookL as fa fn fx ts ex).obs s := by
  have e : g = s.heap.get? := funext h
  rw [e] <;> rfl
end PD
/-! PD56: zip of two lists, dict of pairs, == of dicts of ints, names two blocks deep. -/
namespace PD
open PySem PySem.Spec PyProof.Rows L2
/-! ### names two blocks deep -/
end PD
/-! PD57: d.update(another dict). -/
namespace PD
open PySem PySem.Spec PyProof.Rows L2
end PD
/-! PD58: x or y of None or a tuple with something in it. -/
namespace PD
open PySem PySem.Spec PyProof.Rows L2
end PD
/-! PD59: own `op=` by the class's own method. -/
namespace PD
open PySem PySem.Spec PyProof.Rows L2
end PD
/-! PD60: != of two sets of ints. -/
namespace PD
open PySem PySem.Spec PyProof.Rows L2
/-! ### in the layer -/
end PD
/-! PD61: slices of a list that is still held. -/
namespace PD
open PySem PySem.Spec PyProof.Rows L2
end PD
/-! PD62: != [] of a list that is still held. -/
namespace PD
open PySem PySem.Spec PyProof.Rows L2
end PD
/-! PD63: str of a tuple or a list of plain data; how long what is shown may be. -/
namespace PD
open PySem PySem.Spec PyProof.Rows L2
end PD
/-! PD64: for p in d.items(), p one name: each pair a tuple of its own. -/
namespace PD
open PySem PySem.Spec PyProof.Rows L2 PySem.W
end PD
/-! PD65: a dict that is locked behind an expression, for good. -/
namespace PD
open PySem PySem.Spec PyProof.Rows L2 PySem.W
end PD
/-! PD66: where a token is out: text.replace(old, new) of written texts. -/
namespace PD
open PySem PySem.Spec PyProof.Rows L2
end PD
/-! PD67: == of dicts whose values are ints or None. -/
namespace PD
open PySem PySem.Spec PyProof.Rows L2 PySem.W
end PD
/-! PD68: try .. except X as n: raise C(e) from n. -/
namespace PD
open PySem PySem.Spec PyProof.Rows L2
end PD
/-! PD69: raise .. from in a suite whose exception has a context of its own. -/
namespace PD
open PySem PySem.Spec PyProof.Rows L2
/-! ### a def stepped through where any exception is handled -/
end PD
/-! PD70: try .. except whose suite raises, for what flies in either way. -/
namespace PD
open PySem PySem.Spec PyProof.Rows L2
end PD
/-! PD71: the same with a name. -/
namespace PD
open PySem PySem.Spec PyProof.Rows L2
end PD
/-! PD72: try .. except X: raise C(e) from None, and with a name, by modes. -/
namespace PD
open PySem PySem.Spec PyProof.Rows L2
/-- the argument of an exception: by a name, or a number -/
inductive Arg (Γ : Ct) (i : Nat) : Expr → (Dl → D → Prop) → Prop where
  | nm {j : Nat} {z : Str} {zp : Pos} (hj : Γ.X.N[j]? = some z) (hv : Vis Γ.X.env.scope z) (hij : j ≠ i) (hd : (z == ("__debug__" : Str)) = false) (hc : (z == ("__classdict__" : Str)) = false) : Arg Γ i (.Name z zp) fun δ d => δ[j]? = some (some d)
  | int (n : Int) (k : Nat) (p : Pos) : Arg Γ i (.Constant (.int n) k p) fun _ d => d = .int n
theorem Arg.run {Γ : Ct} {i : Nat} {ae : Expr} {ad : Dl → D → Prop} (A : Arg Γ i ae ad) {X' : Cx} (hN : X'.N = Γ.X.N) (hE : X'.env = Γ.X.env) (he : starEach [ae] X'.env = (false, eval ae X'.env) :: starEach [] X'.env) :
    ∃ ta : TA, PA X' [ae] ta ∧ ∀ {K : PySem.W.Frag} {F : Hp} {δ : Dl} {σ : L2.St} {d : D}, Fr K F σ δ → ad δ d → ∃ v, Dp K F d v ∧ ∀ σ2 : L2.St, (∀ k, k ≠ i → σ2[k]? = σ[k]?) → ∀ (H : Hp) (Q : List V → Hp → Prop), Q [v] H → ta σ2 H Q := by
  cases A with
  | nm hj hv hij hd hc =>
    refine ⟨_, pa_cons (pe_var (by rw [hN]; exact hj) (by rw [hE]; exact hv) hd hc) pa_nil he, fun {K F δ σ d} fr had => ?_⟩
    obtain ⟨v, h1, h2⟩ := fr.2 _ d had
    exact ⟨v, h2, fun σ2 hs H Q q => ⟨v, (hs _ hij).trans h1, q⟩⟩
  | int n k p =>
    refine ⟨_, pa_cons pe_int pa_nil he, fun {K F δ σ d} fr had => ?_⟩
    subst had
    exact ⟨.int n, by rw [Dp], fun σ2 hs H Q q => q⟩
end PD
/-! PD73: int of a bool. -/
namespace PD
open PySem PySem.Spec PyProof.Rows L2
end PD
/-! PD74: defs that let out what has a context that has none. -/
namespace PD
open PySem PySem.Spec PyProof.Rows L2
/-- a def that may let out what has a context that has none, or anything -/
structure CallM (P : Program) (w : World) (K : PySem.W.Frag) (mg : Str → Option Value) (base : Heap) (k : Nat) (f : Addr) (n : Nat) (dds : List D) (sp : SpD) : Prop where
  x : ∀ b : Md, b ≠ some true → CallX b P w K mg base k f n dds sp
theorem CallM.at_ {P : Program} {w : World} {K : PySem.W.Frag} {mg : Str → Option Value} {base : Heap} {k : Nat} {f : Addr} {n : Nat} {dds : List D} {sp : SpD} (c : CallM P w K mg base k f n dds sp) (b : Md) (h : b ≠ some true := by first | decide | (show (none : Md) ≠ some true; decide) | (show (some false : Md) ≠ some true; decide)) : CallX b P w K mg base k f n dds sp := c.x b h
end PD
/-! PD75: x.upper(). -/
namespace PD
open PySem PySem.Spec PyProof.Rows L2
end PD
/-! PD76: an exception that goes out of a list comprehension (below the data): the block's context with a wish of its own, what the block hands on to the def. -/
namespace PD
open PySem PySem.Spec PyProof.Rows L2
/-! ### the heap without one thing -/
/-! ### the exception goes out of the block -/
end PD
/-! PD77: list comprehensions whose block may let an exception out (ed_lcX; lcdX as lcd, its blocks with the def's wish about exceptions). -/
namespace PD
open PySem PySem.Spec PyProof.Rows L2
/-- the block's context, a wish of its own -/
abbrev blkX (X : Cx) (s : Shared) (H : Hp) (scope : Scope) (ce : Env) (fp : List Addr) (E : Value → Shared → Prop) : Cx := (X.blk s H scope ce fp).wish E
def Wb (W : WX) (σ : L2.St) : WX := fun cls d _ H => W cls d σ H
end PD
/-! PD78: lcdX, ed_lcX: a list comprehension over data, its block may let an exception out (the def's promise about exceptions at the slots ahead of the comprehension). -/
namespace PD
open PySem PySem.Spec PyProof.Rows L2
abbrev WblkD (Γ : Ct) (δ : Dl) : XD := fun cls ns ds _ μ => Γ.W cls ns ds δ μ
@[reducible] def Ct.blkX (Γ : Ct) (δ : Dl) (scope : Scope) (s : Shared) (H : Hp) (C : Addr) (cl : List (Str × Addr)) (fp : List Addr) (E : Value → Shared → Prop) (F0 : Hp) (μ0 : Mu) (H0 : Hp)
    (tk : TkB Γ.nn (PD.blkX Γ.X s H scope (compEnvC scope cl C Γ.X.env) fp E) (WofD Γ.X.K F0 μ0 H0 (WblkD Γ δ))) (po : PassesOwn (model Γ.X.prog Γ.X.w) Γ.X.A (compEnvC scope cl C Γ.X.env) E) : Ct :=
  ⟨PD.blkX Γ.X s H scope (compEnvC scope cl C Γ.X.env) fp E, F0, μ0, H0, WblkD Γ δ, Γ.nn, tk, po⟩
/-- a judgement in all such blocks -/
def allX (Γ : Ct) (δ : Dl) (scope : Scope) (J : Ct → Prop) : Prop := ∀ (s : Shared) (H : Hp) (C : Addr) (cl : List (Str × Addr)) (fp : List Addr) (E : Value → Shared → Prop) (F0 : Hp) (μ0 : Mu) (H0 : Hp)
    (tk : TkB Γ.nn (PD.blkX Γ.X s H scope (compEnvC scope cl C Γ.X.env) fp E) (WofD Γ.X.K F0 μ0 H0 (WblkD Γ δ))) (po : PassesOwn (model Γ.X.prog Γ.X.w) Γ.X.A (compEnvC scope cl C Γ.X.env) E), J (Γ.blkX δ scope s H C cl fp E F0 μ0 H0 tk po)
section
variable {Γ : Ct} {elt tg iter : Expr} {ifs : List Expr} {scope : Scope} {own : List (Str × Nat)} {pos : Pos} {δ : Dl} {μ : Mu}
theorem LcAt.tk {F1 F H : Hp} {σ : L2.St} {Da : Addr} {acc : List D} (L : LcAt Γ F1 δ σ Da acc μ H F) {Y : Cx} (t : TkB Γ.nn Y (Wb (WofD Γ.X.K Γ.F0 Γ.μ0 Γ.H0 Γ.W) σ)) : TkB Γ.nn Y (WofD Γ.X.K F μ H (WblkD Γ δ)) :=
  t.imp fun cls d σb Hb ⟨F5, μ5, δ5, ns, ds, st, sx, fr, xd, w⟩ => ⟨F5, μ5, δ, ns, ds, L.at_.st.trans st, sx, L.at_.fr.mono st.ext, xd, w⟩
end
end PD
/-! PD79: names in a block that may let an exception out (rows of --#rowsX). -/
namespace PD
open PySem PySem.Spec PyProof.Rows L2
end PD
/-! PD80: x.partition(y); where a token is out: if name == ".."; methods and classmethods called with such arguments. -/
namespace PD
open PySem PySem.Spec PyProof.Rows L2 ClX
end PD
/-! PD81: exceptions that are kept as values: made by place, by name, with nothing; what they keep; isinstance. -/
namespace PySem
namespace PDXK
open PySem.W PySem.Calls PyProof.Rows Builtin HandSPX
section
variable {M : Model} {A : Around} {E : Value → Shared → Prop} {h : Heap} {g : Array GenState} {d : Drawn} {t : Nat} {os : OsState}
variable {nm q : Str} {C N : Addr} {bs bm bmB : List Value} {hdct : Bool} {sn : List Str} {sub : List Value} {ab : Bool} {col : Option Bool} {dd : Option Addr} {k0 k1 k2 k3 k5 : Option Value} {B newId initId : String} {kn : Str} {kv : Value}
theorem check_new_kw (F : ExcBaseFacts B newId initId bmB) (hT : ∀ X : String, bm.contains (.type X) = bmB.contains (.type X)) {Q : Unit → Shared → Prop}
    (hC : h.get? C = some (excClassObj nm q C N bs bm hdct sn sub ab col dd k0 k1 k2 k3 k5 newId)) (hq : Q () ⟨h, g, d, t, os⟩) : wpAny M A (checkBuiltinCall newId ⟨[.ref C], [(kn, kv)]⟩) Q E ⟨h, g, d, t, os⟩ := by
  have hcont : (Value.ref C :: bm).contains (.type B) = true := by rw [List.contains_cons, hT, F.hasB, Bool.or_true]
  have hstar := F.noStar
  simp only [checkBuiltinCall, F.newKind, F.newSplit, F.newRow]
  repeat (first | refine wpAny_loadPart_at hC ?_ | (refine wpAny_isSubtype_exc hC ?_; rw [hcont]) | refine wpAny_staticBase_exc hC ?_ | refine wpAny_madeBy_exc hC ?_ | simp only [bne_self_eq_false, Bool.false_eq_true, if_false] | wp_step)
  exact hq
end
section
variable {prog : Program} {w : World} {A : Around} {E : Value → Shared → Prop} {R : Result → Shared → Prop} {h : Heap} {g : Array GenState} {d : Drawn} {t : Nat} {os : OsState}
variable {nm q : Str} {C N : Addr} {bs bm bmB : List Value} {hdct : Bool} {sn : List Str} {sub : List Value} {ab : Bool} {col : Option Bool} {dd : Option Addr} {k0 k1 k2 k3 k5 : Option Value} {B newId initId : String} {kn : Str} {kv : Value}
theorem new_kw (F : ExcBaseFacts B newId initId bmB) (hT : ∀ X : String, bm.contains (.type X) = bmB.contains (.type X))
    (hC : h.get? C = some (excClassObj nm q C N bs bm hdct sn sub ab col dd k0 k1 k2 k3 k5 newId))
    (hq : R (.ok (.ret (.ref (h.objs.size + 1)))) ⟨(h.push { cls := .type "tuple", data := .seq #[] }).push
      { cls := .ref C, data := .fields #[.ref h.objs.size, .none, .none, .none, .bool false, .none] }, g, d, t, os⟩) :
    codeAny (model prog w) A (.builtin newId ⟨[.ref C], [(kn, kv)]⟩) R ⟨h, g, d, t, os⟩ := by
  have hends := F.ends
  have hcB : (Value.ref C :: bm).contains (.type B) = true := by rw [List.contains_cons, hT, F.hasB, Bool.or_true]
  have hcA : (Value.ref C :: bm).contains (.type "AttributeError") = false := by rw [List.contains_cons, hT, F.noAttr]; rfl
  have hcN : (Value.ref C :: bm).contains (.type "NameError") = false := by rw [List.contains_cons, hT, F.noName]; rfl
  refine codeAny_builtinAt F.entry ?_
  unfold Builtin.«BaseException.__new__»
  refine wpAt_bind ?_
  show wpAt _ _ _ (stack >>= _) _ _ _
  refine wpAt_bind (wpAt_stack fun p below => wpAt_of_wpAny ?_)
  wp_walk
  refine wpAt_of_wpAny ?_
  rw [F.owner]
  repeat (first | with_reducible refine wpAny_madeHere_exc F.canon hC ?_ | with_reducible refine wpAny_loadPart_at hC ?_ | (with_reducible refine wpAny_isSubtype_exc hC ?_; first | rw [hcB] | rw [hcA] | rw [hcN]) | wp_step)
  show R _ _
  rw [Heap.size_push]
  exact hq
theorem type_call_kw (F : ExcBaseFacts B newId initId bmB) (hT : ∀ X : String, bm.contains (.type X) = bmB.contains (.type X)) {fI : Addr} {Q : Fin → Shared → Prop}
    (hC : h.get? C = some (excClassObj nm q C N bs bm hdct sn sub ab col dd k0 k1 k2 k3 k5 newId))
    (hi : W.Looks (model prog w) h (typeLookup (.ref C) "__init__") (some (.ref fI))) (hb : ∀ self, W.Looks (model prog w) h (bindSpecial (.ref fI) self) (.ref fI, [self]))
    (hq : codeAny (model prog w) A (.call (.ref fI) ⟨[.ref (h.objs.size + 1)], [(kn, kv)]⟩)
      (fun r s' => match r with | .ok (.ret v) => v = .none ∧ Q (.done (.ret (.ref (h.objs.size + 1)))) s' | .ok _ => False | .error e => E e s')
      ⟨(h.push (W.kdv_tup [])).push (excO C h.objs.size), g, d, t, os⟩) :
    wpAny (model prog w) A (Builtin.«type.__call__» ⟨[.ref C], [(kn, kv)]⟩) Q E ⟨h, g, d, t, os⟩ := by
  repeat (first | with_reducible refine wpAny_loadPart_at hC ?_ | with_reducible refine wpAny_madeBy_exc hC ?_ | wp_step)
  refine codeAny_call_builtin_code (Code.quiet_builtin _ F.quiet) (check_new_kw F hT hC ?_)
  refine new_kw F hT hC ?_
  show wpAny _ _ _ _ _ _
  have k : ∀ b o, h.get? b = some o → ((h.push (W.kdv_tup [])).push (excO C h.objs.size)).get? b = some o := fun b o e => Heap.get?_push_of_some _ (Heap.get?_push_of_some _ e)
  have hC₁ := k _ _ hC
  have hget : ((h.push (W.kdv_tup [])).push (excO C h.objs.size)).get? (h.objs.size + 1) = some (excO C h.objs.size) := by heap_get
  have hcC : (Value.ref C :: bm).contains (.ref C) = true := by simp
  have i1 := hi.keeps k
  have b1 := (hb (.ref (h.objs.size + 1))).keeps k
  unfold isInstance
  repeat (first | with_reducible refine wpAny_loadPart_at hget ?_ | (with_reducible refine wpAny_isSubtype_exc hC₁ ?_; rw [hcC]) | wp_step)
  show wpAny _ _ (typeLookup (.ref C) _) _ _ _
  refine i1.at ?_
  refine wpAny_holding (wpAny_bind (b1.at ?_))
  refine wpAny_bind (wpAny_call (codeAny_mono hq fun r s' z => ?_))
  rcases r with e | (v | _ | _ | _) <;> first | exact z | exact z.elim | skip
  obtain ⟨rfl, z⟩ := z
  first
    | exact wpAny_pure (wpAny_pure z)
    | (wp_walk; exact z)
theorem call_kw (F : ExcBaseFacts B newId initId bmB) (hT : ∀ X : String, bm.contains (.type X) = bmB.contains (.type X)) {fI : Addr}
    (hC : h.get? C = some (excClassObj nm q C N bs bm hdct sn sub ab col dd k0 k1 k2 k3 k5 newId))
    (hi : W.Looks (model prog w) h (typeLookup (.ref C) "__init__") (some (.ref fI))) (hb : ∀ self, W.Looks (model prog w) h (bindSpecial (.ref fI) self) (.ref fI, [self]))
    (hq : codeAny (model prog w) (A.under (.builtin "type.__call__" ⟨[.ref C], [(kn, kv)]⟩)) (.call (.ref fI) ⟨[.ref (h.objs.size + 1)], [(kn, kv)]⟩) (W.InitBack (h.objs.size + 1) R)
      ⟨(h.push (W.kdv_tup [])).push (excO C h.objs.size), g, d, t, os⟩) :
    codeAny (model prog w) A (.call (.ref C) ⟨[], [(kn, kv)]⟩) R ⟨h, g, d, t, os⟩ := by
  have f1 := tc_lookup
  have f2 := tc_bind (.ref C)
  have hTy : (⟨h, g, d, t, os⟩ : Shared).TypeIs (.ref C) "type" := ⟨_, hC, rfl⟩
  refine codeAny_of_tree ?_
  show wpAny _ _ (callAny (.ref C) _) _ _ _
  repeat (any_goals (first | assumption | with_reducible refine wpAny_loadPart_at hC ?_ | wp_step))
  refine ⟨rfl, ?_⟩
  refine codeAny_call_builtin_at (Code.quiet_builtin _ (by decide +kernel)) entry_typeCall (wpAny_check_type_call_sub hC (type_call_kw F hT hC hi hb ?_))
  refine codeAny_mono hq fun r s' z => ?_
  rcases r with e | (v | _ | _ | _) <;> exact z
end
end PDXK
end PySem
namespace PD
open PySem PySem.Spec PyProof.Rows L2
theorem vals_cons {x : V} {xs : List V} {us : List Value} (r : Vals (x :: xs) us) : ∃ u us', us = u :: us' ∧ RelV x u ∧ Vals xs us' := by
  cases r with
  | cons r1 r2 => exact ⟨_, _, rfl, r1, r2⟩
theorem vals_nil {us : List Value} (r : Vals [] us) : us = [] := by
  cases r; rfl
theorem bindsK1 {K : PySem.W.Frag} {x qual : Str} {params : Arguments} {body : List Stmt} {scope : Scope} {kws : List (Str × V)} {f : Addr} {fd : FuncData} {ps : List Str} {nm : Str} (F : FunD K x qual params body scope [] kws f fd)
    (h : ∀ (kV doc pm : Value) (an : Option Addr) (cdv ct : Value) (u v : Value), bindArgs (PySem.W.fnOf x qual params body scope .none kV doc pm an cdv ct) ⟨[u], [(nm, v)]⟩ = pure (ps.zip [u, v])) (s : Shared) (u v : Value) : BindsTo s fd ⟨[u], [(nm, v)]⟩ (ps.zip [u, v]) := by
  obtain ⟨oc, od, dV, kV, doc, pm, an, cdv, ct, osl, rfl, lk, hcd, hD, hK⟩ := F.ex
  rcases hD with ⟨_, rfl⟩ | ⟨e, _⟩
  · exact .of_eq (h kV doc pm an cdv ct u v)
  · exact absurd rfl e
section
variable {X : Cx} {B newId initId : String} {tl : List Value}
/-- what the making of an exception as a value asks -/
def tExV (C : Addr) (sp : Sp) (ta : TA) : TE := fun σ H Q => ta σ H fun vs H1 => vs.length ≤ 1000 ∧ ∀ a, H1 a = none → sp (.ref a :: vs) (upd H1 a (exo a C none)) (fun v H2 => v = .non ∧ Q (.ref a) H2) fun _ _ _ => False
/-- C(e) -/
theorem pe_excV {e : Expr} {es : List Expr} {ta : TA} {p pos : Pos} {CX : CXT} {x : Str} {C fI : Addr} {k : Nat} {fd : FuncData} {ps : List Str} {sp : Sp} (Z : Bas B newId initId tl) (T : OexG newId tl X.K C)
    (iC : PySem.W.findIn X.K (.ref C) "__init__" = some (some (.ref fI))) (tI : PySem.W.typeIn X.K (.ref fI) = some (.type "function")) (G : L2.FnOk X.prog X.w X.K X.mg X.base CX k fI fd ps sp) (hr : L2.Room (k + 1) X.A) (hb : Binds X.K fd ps []) (hx : Passes CX X (fun _ _ _ => False))
    (hg : Gl X x) (hm : X.mg x = some (.ref C)) (ha : PA X (e :: es) ta) (hdb : (x == ("__debug__" : Str)) = false) (he : starEach (e :: es) X.env = (false, eval e X.env) :: starEach es X.env) (hpl : (backTo pos (starEach es X.env)).any (·.1) = false) :
    PE X (.Call (.Name x p) (e :: es) [] pos) (tExV C sp ta) := ⟨fun pins s σ H Q I h => by
  obtain ⟨nm, q, N, bs, bm, sn, sub, ab, col, dd, k0, k1, k2, k3, k5, look, tail⟩ := T.cls
  refine wpAny_Call_Name_kw (ld_glob I hg hm (PySem.W.callWith_K (h₀ := X.base) I.ok.mod.kin T.kC (thn (ha.run pos pins s σ H _ I h) fun us s1 ⟨vs, H1, I1, r1, hz, q1⟩ => ⟨I1.kIn, ?_⟩) he hpl) hdb)
  obtain ⟨hp, g, dr, tk, os⟩ := s1
  let n := hp.objs.size
  let hp2 := (hp.push (PySem.W.kdv_tup us)).push (PySem.HandSPX.excO C n)
  have nn : n ≤ n + 1 := Nat.le_succ _
  have want := q1 (n + 1) (I1.hok.fresh nn)
  have keep : ∀ b o, hp.get? b = some o → hp2.get? b = some o := fun b o z => Heap.get?_push_of_some _ (Heap.get?_push_of_some _ z)
  have there : hp2.get? (n + 1) = some (PySem.HandSPX.excO C n) := by
    show ((hp.push (PySem.W.kdv_tup us)).push (PySem.HandSPX.excO C hp.objs.size)).get? (hp.objs.size + 1) = _
    heap_get
  have I2 : Inv X pins σ (upd H1 (n + 1) (exo (n + 1) C none)) ⟨hp2, g, dr, tk, os⟩ := I1.laid (t' := tk) (a := n + 1) (o := exo (n + 1) C none) (h' := hp2) keep nn (exo_ok there)
  have rr : Vals (V.ref (n + 1) :: vs) (Value.ref (n + 1) :: us) := .cons rfl r1
  have ln : (Value.ref (n + 1) :: us ++ []).length = ps.length := by rw [List.append_nil]; exact rr.length.symm.trans (G.len _ _ _ _ want)
  have small : us.length ≤ sizeLine := by rw [← Paired.length r1, sizeLine_eq]; omega
  have b0 := hb ⟨hp2, g, dr, tk, os⟩ (Value.ref (n + 1) :: us) I2.kIn ln
  rw [List.append_nil] at b0
  have go := G.run _ X.stack _ _ ⟨Value.ref (n + 1) :: us, []⟩ _ _ _ (fun _ _ _ => False) (hr.make C us []) (I2.env0.make C us []) b0 rr want
  refine wpAny_call (PySem.HandSPX.call_own Z.F (fun Y => PySem.W.excTail_contains Y bm tail) (I1.kIn _ _ look) (PySem.W.looks_findIn I1.kIn iC) (fun self => PySem.W.bind_fn I1.kIn self tI) small (codeAny_mono go fun res s' z => ?_))
  match res, z with
  | .error er, z => exact hx pins σ _ _ er s' I2 z
  | .ok (.ret u), z =>
    obtain ⟨v, H2, I3, rv, rfl, q2⟩ := I2.after z
    exact ⟨rv, .ref (n + 1), H2, I3, rfl, q2⟩⟩
/-- C(k = e) -/
theorem pe_excK {e : Expr} {te : TE} {p pos kpos : Pos} {CX : CXT} {x kn : Str} {C fI : Addr} {k : Nat} {fd : FuncData} {ps : List Str} {sp : Sp} (Z : Bas B newId initId tl) (T : OexG newId tl X.K C)
    (iC : PySem.W.findIn X.K (.ref C) "__init__" = some (some (.ref fI))) (tI : PySem.W.typeIn X.K (.ref fI) = some (.type "function")) (G : L2.FnOk X.prog X.w X.K X.mg X.base CX k fI fd ps sp) (hr : L2.Room (k + 1) X.A) (hb : ∀ (s : Shared) (u v : Value), BindsTo s fd ⟨[u], [(kn, v)]⟩ (ps.zip [u, v])) (hx : Passes CX X (fun _ _ _ => False))
    (hg : Gl X x) (hm : X.mg x = some (.ref C)) (ha : PE X e te) (hdb : (x == ("__debug__" : Str)) = false)
    (hall : (backToKw pos (keywordEach [⟨some kn, e, kpos⟩] X.env)).all (·.1.isSome) = true) (hks : (backToKw pos (keywordEach [⟨some kn, e, kpos⟩] X.env)).filterMap (·.1) = [kn])
    (hpl : ((backTo pos (starEach [] X.env)).any (·.1) || (backToKw pos (keywordEach [⟨some kn, e, kpos⟩] X.env)).any (·.1.isNone)) = false) :
    PE X (.Call (.Name x p) [] [⟨some kn, e, kpos⟩] pos) (fun σ H Q => tCons te tNil σ H fun vs H1 => ∃ y, vs = [y] ∧ ∀ a, H1 a = none → sp [.ref a, y] (upd H1 a (exo a C none)) (fun v H2 => v = .non ∧ Q (.ref a) H2) fun _ _ _ => False) := ⟨fun pins s σ H Q I h => by
  obtain ⟨nm, q, N, bs, bm, sn, sub, ab, col, dd, k0, k1, k2, k3, k5, look, tail⟩ := T.cls
  refine wpAny_Call_Name_kw (ld_glob I hg hm ?_ hdb)
  refine PySem.W.callWith_KW0 (h₀ := X.base) I.ok.mod.kin T.kC hall ?_ hpl
  refine thn ((pk_cons (nm := some kn) (kpos := kpos) ha pk_nil).run pos pins s σ H _ I h) fun ws s1 ⟨vs, H1, I1, r1, y, ey, q1⟩ => ⟨I1.kIn, ?_⟩
  subst ey
  obtain ⟨w0, ws', rfl, r0, r1'⟩ := vals_cons r1
  obtain rfl := vals_nil r1'
  rw [hks]
  obtain ⟨hp, g, dr, tk, os⟩ := s1
  let n := hp.objs.size
  let hp2 := (hp.push (PySem.W.kdv_tup [])).push (PySem.HandSPX.excO C n)
  have nn : n ≤ n + 1 := Nat.le_succ _
  have want := q1 (n + 1) (I1.hok.fresh nn)
  have keep : ∀ b o, hp.get? b = some o → hp2.get? b = some o := fun b o z => Heap.get?_push_of_some _ (Heap.get?_push_of_some _ z)
  have there : hp2.get? (n + 1) = some (PySem.HandSPX.excO C n) := by
    show ((hp.push (PySem.W.kdv_tup [])).push (PySem.HandSPX.excO C hp.objs.size)).get? (hp.objs.size + 1) = _
    heap_get
  have I2 : Inv X pins σ (upd H1 (n + 1) (exo (n + 1) C none)) ⟨hp2, g, dr, tk, os⟩ := I1.laid (t' := tk) (a := n + 1) (o := exo (n + 1) C none) (h' := hp2) keep nn (exo_ok there)
  have rr : Vals [V.ref (n + 1), y] [Value.ref (n + 1), w0] := .cons rfl (.cons r0 .nil)
  have go := G.run _ X.stack _ _ ⟨[Value.ref (n + 1)], [(kn, w0)]⟩ _ _ _ (fun _ _ _ => False) (hr.make C [] [(kn, w0)]) (I2.env0.make C [] [(kn, w0)]) (hb _ _ w0) rr want
  refine wpAny_call (PySem.PDXK.call_kw Z.F (fun Y => PySem.W.excTail_contains Y bm tail) (I1.kIn _ _ look) (PySem.W.looks_findIn I1.kIn iC) (fun self => PySem.W.bind_fn I1.kIn self tI) (codeAny_mono go fun res s' z => ?_))
  match res, z with
  | .error er, z => exact hx pins σ _ _ er s' I2 z
  | .ok (.ret u), z =>
    obtain ⟨v, H2, I3, rv, rfl, q2⟩ := I2.after z
    exact ⟨rv, .ref (n + 1), H2, I3, rfl, q2⟩⟩
/-- C() of a class without an own __init__ -/
theorem pe_exc0 {p pos : Pos} {x : Str} {C : Addr} (Z : Bas B newId initId tl) (q : PySem.W.excIn X.K C tl newId = true) (kC : PySem.W.keepIn X.K (.ref C) = true) (hg : Gl X x) (hm : X.mg x = some (.ref C)) (hdb : (x == ("__debug__" : Str)) = false) :
    PE X (.Call (.Name x p) [] [] pos) (fun _ H Q => ∀ a, H a = none → Q (.ref a) (upd H a (exo a C none))) := ⟨fun pins s σ H Q I h => by
  refine wpAny_Call_Name_kw (ld_glob I hg hm ?_ hdb)
  refine PySem.W.callWith_K0 (first := []) I.kIn kC ?_
  obtain ⟨bm, N, nm, qn, bs, hdct, sn, sub, ab, col, dd, k0, k1, k2, k3, k5, mN, hC, hN, hni, T⟩ := exc_obj I.kIn q
  refine wpAny_call_exc_subT Z.F T hC hN hni (fun h' e hm2 => ?_) (by show 0 ≤ sizeLine; exact Nat.zero_le _)
  obtain ⟨t, he, _, _⟩ := hm2.there
  have hn := I.hok.gone hm2.new
  exact ⟨.ref e, upd H e (exo e C none), I.laidN (t' := s.toks) hm2.keeps hm2.new hn (exo_ok he), rfl, h e hn⟩⟩
/-- e.f of a kept exception -/
theorem pe_xfV {e : Expr} {te : TE} {pos : Pos} {n : Str} {C : Addr} (T : XfC X.K C) (hno : PySem.W.findIn X.K (.ref C) n = some none) (he : PE X e te) (hb : attributeBase e n X.env (eval e X.env) = eval e X.env) :
    PE X (.Attribute e n pos) (fun σ H Q => te σ H fun x H1 => ∃ a dd fs v, x = .ref a ∧ H1 a = some (exo a C (some dd)) ∧ H1 dd = some (exd dd fs) ∧ fs.lookup n = some v ∧ Q v H1) := ⟨fun pins s σ H Q I h => by
  refine attr_of hb (thn (he.run pins s σ H _ I h) fun u s1 hh => ?_)
  obtain ⟨x, H1, I1, rx, a, dd, fs, v, rfl, ea, ed, l, q⟩ := hh
  obtain rfl : u = Value.ref a := rx
  obtain ⟨t1, ha⟩ := exo_at I1.hok ea
  obtain ⟨mA, hns, hr⟩ := exd_at I1.hok ed
  obtain ⟨od, ho, hl⟩ := lookIn_ns hns
  obtain ⟨u, hu, ru⟩ := RelO.some_of (v := v) (o := mA n) (by rw [← l]; exact hr n)
  have J : PySem.W.InstAt s1.heap a { cls := .ref C, dict := some dd, data := .fields #[.ref t1, .none, .none, .none, .bool false, .none] } C (some od) := ⟨ha, rfl, rfl, ho⟩
  exact HandSPX.exc_get I1.kIn J T.ga T.gg T.exC (PySem.W.findObj_own T.hdC hno rfl (by rw [hl, hu])) (handed_of ru) ⟨v, H1, I1.tok _, ru, q⟩⟩
end
end PD
/-! PD82: kept exceptions over data: D.exv made by place, by name, with nothing; what they keep; isinstance. -/
namespace PD
open PySem PySem.Spec PySem.Calls PyProof.Rows L2
/-- an own exception class whose __init__ keeps one thing under fl; its parameter bears that name, too -/
structure ExcMkV (P : Program) (w : World) (K : PySem.W.Frag) (mg : Str → Option Value) (base : Heap) (C : Addr) (fl : Str) : Prop where
  hno : PySem.W.findIn K (.ref C) fl = some none
  ex : ∃ B newId initId tl fI fd ps, Bas B newId initId tl ∧ OexG newId tl K C ∧ PySem.W.findIn K (.ref C) "__init__" = some (some (.ref fI)) ∧ PySem.W.typeIn K (.ref fI) = some (.type "function") ∧ Binds K fd ps [] ∧
    (∀ (s : Shared) (u v : Value), BindsTo s fd ⟨[u], [(fl, v)]⟩ (ps.zip [u, v])) ∧ L2.FnOk P w K mg base (L2.CX P w) 1 fI fd ps (spOexG newId tl K fl)
section
variable {Γ : Ct} {δ : Dl} {μ : Mu} {Q : D → Mu → Prop} {e : Expr} {x fl : Str} {C : Addr} {p p2 pos kpos : Pos} {j : Nat}
theorem exv_heap {H1 : Hp} {a dx : Addr} {o0 o1 o2 : HO} : upd (upd (upd H1 a o0) dx o1) a o2 = upd (upd H1 dx o1) a o2 := by
  funext b
  by_cases h : b = a
  · subst h; rw [upd_same, upd_same]
  · rw [upd_ne h, upd_ne h]
    by_cases h2 : b = dx
    · subst h2; rw [upd_same, upd_same]
    · rw [upd_ne h2, upd_ne h2, upd_ne h]
theorem exv_new {F F1 : Hp} {H1 : Hp} {σ : L2.St} {μ1 : Mu} {d : D} {v : V} {a dx : Addr} {o0 : HO} (s1 : Same F F1) (a1 : At Γ F1 δ μ1 σ H1) (r1 : Dp Γ.X.K F1 d v) (ha : H1 a = none) (hdx : upd H1 a o0 dx = none) (hne : dx ≠ a) (q : Q (.exv C [fl] [d]) μ1) :
    PostE Γ F δ σ Q (.ref a) (upd (upd (upd H1 a o0) dx (exd dx [(fl, v)])) a (exo a C (some dx))) := by
  rw [exv_heap]
  rw [upd_ne hne] at hdx
  have a2 := a1.pers (exd dx [(fl, v)]) hdx
  have ha2 : upd H1 dx (exd dx [(fl, v)]) a = none := by rw [upd_ne hne.symm]; exact ha
  have a3 := a2.pers (exo a C (some dx)) ha2
  have sa := same_upd (o := exd dx [(fl, v)]) (a1.sx.sub.free hdx)
  have sb := same_upd (o := exo a C (some dx)) (a2.sx.sub.free ha2)
  refine ⟨_, .exv C [fl] [d], μ1, s1.trans (sa.trans sb), a3, ?_, q⟩
  rw [Dp]
  refine ⟨a, some dx, [(fl, v)], rfl, upd_same, (fun h => nomatch h), fun dx' h => ?_, rfl, Dps.cons ((r1.mono sa).mono sb) Dps.nil⟩
  cases h
  rw [upd_ne hne, upd_same]
/-- C(e) -/
theorem ed_excV (M : ExcMkV Γ.X.prog Γ.X.w Γ.X.K Γ.X.mg Γ.X.base C fl) (hr : Room j Γ.X.A) (hj : 2 ≤ j) (hm : Γ.X.mg x = some (.ref C)) (h : ed Γ e δ μ fun d μ' => Q (.exv C [fl] [d]) μ') (hg : Gl Γ.X x := by rfl) (hdb : (x == ("__debug__" : Str)) = false := by decide +kernel)
    (he : starEach [e] Γ.X.env = (false, eval e Γ.X.env) :: starEach [] Γ.X.env := by rfl) (hpl : (backTo p2 (starEach [] Γ.X.env)).any (·.1) = false := by rfl) : ed Γ (.Call (.Name x p) [e] [] p2) δ μ Q := fun F σ H a => by
  obtain ⟨B, newId, initId, tl, fI, fd, ps, Z, T, i1, i2, b, -, G⟩ := M.ex
  refine we_of (pe_excV Z T i1 i2 G (hr.mono hj).r b pass_none hg hm (pa_cons pe_we pa_nil he) hdb he hpl) ?_
  refine we_mono (h F σ H a) fun v H1 ⟨F1, d, μ1, s1, a1, r1, q⟩ => ?_
  exact ⟨by simp, fun a' ha' => ⟨a', C, v, rfl, T, M.hno, upd_same, fun dx hdx hne => ⟨rfl, exv_new s1 a1 r1 ha' hdx hne q⟩⟩⟩
/-- C(fl = e) -/
theorem ed_excK (M : ExcMkV Γ.X.prog Γ.X.w Γ.X.K Γ.X.mg Γ.X.base C fl) (hr : Room j Γ.X.A) (hj : 2 ≤ j) (hm : Γ.X.mg x = some (.ref C)) (h : ed Γ e δ μ fun d μ' => Q (.exv C [fl] [d]) μ') (hg : Gl Γ.X x := by rfl) (hdb : (x == ("__debug__" : Str)) = false := by decide +kernel)
    (hall : (backToKw p2 (keywordEach [⟨some fl, e, kpos⟩] Γ.X.env)).all (·.1.isSome) = true := by rfl) (hks : (backToKw p2 (keywordEach [⟨some fl, e, kpos⟩] Γ.X.env)).filterMap (·.1) = [fl] := by rfl)
    (hpl : ((backTo p2 (starEach [] Γ.X.env)).any (·.1) || (backToKw p2 (keywordEach [⟨some fl, e, kpos⟩] Γ.X.env)).any (·.1.isNone)) = false := by rfl) : ed Γ (.Call (.Name x p) [] [⟨some fl, e, kpos⟩] p2) δ μ Q := fun F σ H a => by
  obtain ⟨B, newId, initId, tl, fI, fd, ps, Z, T, i1, i2, -, b, G⟩ := M.ex
  refine we_of (pe_excK Z T i1 i2 G (hr.mono hj).r b pass_none hg hm pe_we hdb hall hks hpl) ?_
  refine we_mono (h F σ H a) fun v H1 ⟨F1, d, μ1, s1, a1, r1, q⟩ => ?_
  exact ⟨v, rfl, fun a' ha' => ⟨a', C, v, rfl, T, M.hno, upd_same, fun dx hdx hne => ⟨rfl, exv_new s1 a1 r1 ha' hdx hne q⟩⟩⟩
/-- C() -/
theorem ed_exc0 {B newId initId : String} {tl : List Value} (Z : Bas B newId initId tl) (hq : PySem.W.excIn Γ.X.K C tl newId = true) (kC : PySem.W.keepIn Γ.X.K (.ref C) = true) (hm : Γ.X.mg x = some (.ref C)) (q : Q (.exv C [] []) μ) (hg : Gl Γ.X x := by rfl) (hdb : (x == ("__debug__" : Str)) = false := by decide +kernel) :
    ed Γ (.Call (.Name x p) [] [] p2) δ μ Q := fun F σ H a => by
  refine we_of (pe_exc0 Z hq kC hg hm hdb) fun a' ha' => PostE.new a ha' ?_ q
  rw [Dp]
  exact ⟨a', none, [], rfl, upd_same, fun _ => rfl, (fun _ h => nomatch h), rfl, Dps.nil⟩
/-- e.fl -/
theorem ed_xfV (T : XfC Γ.X.K C) (hno : PySem.W.findIn Γ.X.K (.ref C) fl = some none) (h : ed Γ e δ μ fun d μ1 => ∃ ns ds d', d = .exv C ns ds ∧ (ns.zip ds).lookup fl = some d' ∧ Q d' μ1) (hb : attributeBase e fl Γ.X.env (eval e Γ.X.env) = eval e Γ.X.env := by rfl) : ed Γ (.Attribute e fl pos) δ μ Q := fun F σ H a =>
  we_of (pe_xfV T hno pe_we hb) (we_mono (h F σ H a) fun v H1 ⟨F1, d, μ1, s1, a1, r1, ns, ds, d', ed, hl, q⟩ => by
    subst ed
    rw [Dp] at r1
    obtain ⟨a0, o, gs, rfl, h1, h2, h3, h4, h5⟩ := r1
    subst h4
    obtain ⟨u, hu, ru⟩ := lookup_zip h5 hl
    cases o with
    | none =>
      rw [h2 rfl] at hu
      cases hu
    | some dd => exact ⟨a0, dd, gs, u, rfl, a1.sx.sub _ _ h1, a1.sx.sub _ _ (h3 dd rfl), hu, F1, d', μ1, s1, a1, ru, q⟩)
theorem call_isV {X : Cx} (T : ExcC X.K C) : CallR X (.builtin "isinstance") (fun xs H Q => ∃ (a : Addr) (o : Option Addr) (c : V) (u : Value) (b : Bool), xs = [.ref a, c] ∧ H a = some (exo a C o) ∧ (∀ dd, o = some dd → ∃ fs, H dd = some (exd dd fs)) ∧ ClsV c u ∧ PySem.W.kitOne X.K (.ref C) u = some b ∧ Q (.bl b) H) := fun pins s σ H xs us Q I r h => by
  obtain ⟨a, o, c, u, b, rfl, h1, h2, k, e, q⟩ := h
  obtain ⟨u1, u2, rfl, r1, r2⟩ := vals2 r
  obtain rfl : u1 = Value.ref a := r1
  obtain rfl := k.eq r2
  obtain ⟨t1, ha⟩ := exo_at I.hok h1
  cases o with
  | none =>
    have J : PySem.W.InstAt s.heap a { cls := .ref C, dict := none, data := .fields #[.ref t1, .none, .none, .none, .bool false, .none] } C none := ⟨ha, rfl, rfl, trivial⟩
    exact PySem.W.kia_one (PySem.W.handS_kitx_exc T.hg T.hk T.hs T.hd T.ha T.hn T.ht T.hm) I.kIn J e (fun z => nomatch z) fun tk => ⟨.bl b, H, I.tok tk, rfl, q⟩
  | some dd =>
    obtain ⟨fs, hfs⟩ := h2 dd rfl
    obtain ⟨mA, hns, hr⟩ := exd_at I.hok hfs
    obtain ⟨od, ho, hl⟩ := lookIn_ns hns
    have J : PySem.W.InstAt s.heap a { cls := .ref C, dict := some dd, data := .fields #[.ref t1, .none, .none, .none, .bool false, .none] } C (some od) := ⟨ha, rfl, rfl, ho⟩
    exact PySem.W.kia_one (kitx_excD T) I.kIn J e (fun z => nomatch z) fun tk => ⟨.bl b, H, I.tok tk, rfl, q⟩
theorem cld_isV {ns : List Str} {ds : List D} {c : D} {u : Value} {b : Bool} (T : ExcC Γ.X.K C) (hc : clsD c = some u) (hk : PySem.W.kitOne Γ.X.K (.ref C) u = some b) (q : Q (.bl b) μ) : cld Γ (.builtin "isinstance") [.exv C ns ds, c] δ μ Q := cld_of (call_isV T) fun F σ H vs at_ r0 => by
  obtain ⟨v, ws, rfl, r1, r2⟩ := r0.uncons
  obtain ⟨w, zs, rfl, r3, r4⟩ := r2.uncons
  rw [r4.unnil]
  rw [Dp] at r1
  obtain ⟨a0, o, gs, rfl, h1, h2, h3, h4, h5⟩ := r1
  exact ⟨a0, o, w, u, b, rfl, at_.sx.sub _ _ h1, fun dd hd => ⟨gs, at_.sx.sub _ _ (h3 dd hd)⟩, clsD_run hc r3, hk, PostE.here at_ dpb q⟩
end
end PD
/-! PD83: a list comprehension whose list is changed later (it is owned); repr of texts and of None. -/
namespace PD
open PySem PySem.Spec PyProof.Rows L2
section
variable {Γ : Ct} {elt tg iter : Expr} {ifs : List Expr} {scope : Scope} {own : List (Str × Nat)} {pos : Pos} {δ : Dl} {μ : Mu} {Q : D → Mu → Prop}
theorem lcd_runO {vs : List Nat} {Q : List D → Mu → Prop} (h : lcd Γ elt tg iter ifs scope vs δ μ Q) (F σ H) (a : At Γ F δ μ σ H) :
    tLc (wi Γ.X tg iter) (wgB Γ.X scope tg) (wtB Γ.X scope ifs) (weB Γ.X scope elt) vs σ H (PostE Γ F δ σ fun d μ' => ∃ p ds μ0, d = .ref p ∧ μ' = (p, Cell.lst ds) :: μ0 ∧ Q ds μ0) := by
  refine wi_mono (h F σ H a) fun J H1 ⟨F1, ds, S, μ1, s1, a1, ok, hz, I, h0, hS, hb, hd⟩ => fun Da hD => ?_
  have h0D : Γ.H0 Da = none ∨ Da ∈ dom Γ.μ0 := a1.st.back hD
  refine ⟨fun i m H' => m = ds.length - i ∧ i ≤ ds.length ∧ ∃ F' acc μ', LcAt Γ F1 δ σ Da acc μ' H' F' ∧ I i acc μ', ⟨ds.length, by simp, Nat.zero_le _, F1, [], μ1, ⟨Same.refl _, a1.ext (same_upd hD), ⟨[], upd_same, Dps.nil⟩, a1.sx.sub.free hD, fun hm => ?_⟩, h0⟩, ?_⟩
  · obtain ⟨c, hc, e⟩ := List.mem_map.mp hm
    obtain ⟨u, hu⟩ := (a1.sx.cells c hc).there
    rw [e, hD] at hu; cases hu
  rintro i m H' ⟨rfl, hi, F', acc, μ', L, hI⟩
  obtain ⟨hSi, hacc⟩ := hS i acc μ' hi hI
  by_cases hlt : i < ds.length
  · have e : ds[i]? = some ds[i] := List.getElem?_eq_getElem hlt
    have ah := L.at_.here
    obtain ⟨g1, g2⟩ := ok.go (Γ.here L.at_.st) rfl i F' δ μ' σ H' L.sm ah hSi _ e
    refine .inr ⟨g1, fun H2 => ∃ F2 acc2 μ2, LcAt Γ F1 δ σ Da acc2 μ2 H2 F2 ∧ I (i + 1) acc2 μ2, fun H2 ⟨F2, acc2, μ2, L2', q2⟩ => ⟨ds.length - (i + 1), by omega, rfl, hlt, F2, acc2, μ2, L2', q2⟩, fun x H2 y => ?_⟩
    obtain ⟨F2, s2, a2, r2⟩ := g2 x H2 y
    have LL := L.step (σb := σ) (δb := δ) a2.st a2.sx
    intro sB HB C cl fp
    have aB : At (Γ.blk scope sB HB C cl fp F2 μ' H2) F2 (wipeD δ vs) μ' (L2.wipe σ vs) H2 := ⟨Step.refl _ _ _, LL.at_.sx, LL.at_.fr.wipe vs⟩
    refine wg_mono (hb i _ acc μ' e hI sB HB C cl fp F2 μ' H2 F2 (L2.wipe σ vs) H2 x aB r2) fun σ3 H3 ⟨w3, F3, δ3, μ3, s3, a3, q3⟩ => ⟨w3.trans wipe_wipe, ?_⟩
    have L3 := LL.step (σb := σ) (δb := δ) a3.st a3.sx
    intro sB2 HB2 C2 cl2 fp2
    have aC : At (Γ.blk scope sB2 HB2 C2 cl2 fp2 F3 μ3 H3) F3 δ3 μ3 σ3 H3 := ⟨Step.refl _ _ _, a3.sx, a3.fr⟩
    refine eif_run (q3 sB2 HB2 C2 cl2 fp2 F3 μ3 H3) aC fun b H4 ⟨F4, μ4, s4, a4, q4⟩ => ?_
    have L4 := L3.step (σb := σ) (δb := δ) a4.st a4.sx
    cases b with
    | true =>
      rw [if_pos rfl] at q4 ⊢
      intro sB5 HB5 C5 cl5 fp5
      have aE : At (Γ.blk scope sB5 HB5 C5 cl5 fp5 F4 μ4 H4) F4 δ3 μ4 σ3 H4 := ⟨Step.refl _ _ _, a4.sx, a4.fr⟩
      refine we_mono (q4 sB5 HB5 C5 cl5 fp5 F4 μ4 H4 F4 σ3 H4 aE) fun v H5 ⟨F5, r, μ5, s5, a5, r5, q5⟩ => ?_
      have L5 := L4.step (σb := σ) (δb := δ) a5.st a5.sx
      obtain ⟨ws, h1, h2⟩ := L5.ls
      refine ⟨ws, h1, ?_, F5, acc ++ [r], μ5, ⟨L5.sm, L5.at_.updFree h0D L5.f L5.m, ⟨ws ++ [v], upd_same, h2.append (Dps.cons r5 Dps.nil)⟩, L5.f, L5.m⟩, q5⟩
      rw [← h2.length, sizeLine_eq]
      omega
    | false =>
      rw [if_neg Bool.false_ne_true] at q4 ⊢
      exact ⟨F4, acc, μ4, L4, q4⟩
  · have e : i = ds.length := by omega
    subst e
    refine .inl ⟨ok.stop Γ rfl _ F' δ μ' σ H' L.sm L.at_ hSi (Nat.le_refl _), ?_⟩
    obtain ⟨ws, h1, h2⟩ := L.ls
    have ah := L.at_
    have a2 : At Γ F' δ ((Da, Cell.lst acc) :: μ') σ H' := by
      refine ⟨⟨ah.st.ext, ah.st.keep, ah.st.new, fun c hc => ?_⟩, ⟨ah.sx.sub, fun c hc => ?_, List.nodup_cons.mpr ⟨L.m, ah.sx.nd⟩, fun c hc => ?_⟩, ah.fr⟩
      · rcases List.mem_cons.mp hc with e | hc
        · rw [e]; exact h0D.symm
        · exact ah.st.cell c hc
      · rcases List.mem_cons.mp hc with e | hc
        · rw [e]; exact L.f
        · exact ah.sx.off c hc
      · rcases List.mem_cons.mp hc with e | hc
        · rw [e]; exact ⟨ws, h1, h2⟩
        · exact ah.sx.cells c hc
    exact ⟨_, .ref Da, _, s1.trans L.sm, a2, by rw [Dp], Da, acc, μ', rfl, rfl, hd acc μ' hI⟩
/-- name = [..] -/
theorem sd_setLcO {own : List (Str × Nat)} {E : En} {i : Nat} {y : Str} {py spos : Pos} (hc : Γ.X.calm = true) (hN : Γ.X.N.Nodup) (hy : Γ.X.N[i]? = some y) (hyl : Γ.X.env.scope.names.lookup y = some .local)
    (hsw : swapsWith (.ListComp elt [⟨tg, iter, ifs, 0⟩] scope pos) (some (.Name y py)) spos.line Γ.X.env = pure true) (ok : BlkOk Γ.X.N Γ.X.env.scope scope own)
    (h : lcd Γ elt tg iter ifs scope (own.map (·.2)) δ μ fun ds μ' => ∀ p, E.nx (δ.set i (some (.ref p))) ((p, Cell.lst ds) :: μ')) (hs : ∀ x, foldedSetIterable iter Γ.X.env x = pure x := by intro _; rfl) :
    sd Γ (.Assign [.Name y py] (.ListComp elt [⟨tg, iter, ifs, 0⟩] scope pos) spos) δ μ E := fun F σ H a => by
  have key := lcd_runO h F σ H a
  refine ws_of (ps_setLc (g := wgB Γ.X scope tg) (tt := wtB Γ.X scope ifs) (te := weB Γ.X scope elt) hc hN hy hyl hsw pi_wi ok pg_wgB pts_wtB pe_weB hs) ?_
  have mono : ∀ {Q Q' : VK}, (∀ v H', Q v H' → Q' v H') → tLc (wi Γ.X tg iter) (wgB Γ.X scope tg) (wtB Γ.X scope ifs) (weB Γ.X scope elt) (own.map (·.2)) σ H Q → tLc (wi Γ.X tg iter) (wgB Γ.X scope tg) (wtB Γ.X scope ifs) (weB Γ.X scope elt) (own.map (·.2)) σ H Q' := fun k h =>
    wi_mono h fun J H1 z Da hD => by
      obtain ⟨W, w0, t⟩ := z Da hD
      refine ⟨W, w0, fun i m H' w => ?_⟩
      rcases t i m H' w with ⟨q1, q2⟩ | q
      · exact .inl ⟨q1, k _ _ q2⟩
      · exact .inr q
  exact mono (fun v H' ⟨F', d, μ', s, a', r, p, ds, μ0, e, e2, q⟩ => by subst e e2; exact ⟨F', _, _, s, a'.fr_set i r, q p⟩) key
end
section
variable {Γ : Ct} {δ : Dl} {μ : Mu} {Q : D → Mu → Prop}
theorem call_repr_str {X : Cx} : CallR X (.builtin "repr") (fun xs H Q => ∃ x : Str, xs = [.str x] ∧ (reprText x).length ≤ sizeLine ∧ Q (.str (reprText x)) H) := fun pins s σ H xs us Q I r h => by
  obtain ⟨x, rfl, hl, q⟩ := h
  obtain ⟨u, rfl, t, e⟩ := vals1 r
  subst e
  exact PySem.P.repr_of_str ⟨.str _, H, I.tok _, ⟨_, rfl⟩, q⟩ hl
theorem call_repr_none {X : Cx} : CallR X (.builtin "repr") (fun xs H Q => xs = [.non] ∧ Q (.str "None") H) := fun pins s σ H xs us Q I r h => by
  obtain ⟨rfl, q⟩ := h
  obtain ⟨u, rfl, e⟩ := vals1 r
  obtain rfl : u = Value.none := e
  exact PySem.P.repr_of_none ⟨.str _, H, I.tok _, ⟨_, rfl⟩, q⟩
theorem cld_repr_str {x : Str} (hl : (reprText x).length ≤ sizeLine) (q : Q (.str (reprText x)) μ) : cld Γ (.builtin "repr") [.str x] δ μ Q := cld_of call_repr_str fun F σ H vs a r0 => by
  obtain ⟨v, rfl, r⟩ := r0.one
  rw [dpS r]; exact ⟨x, rfl, hl, PostE.here a dps q⟩
theorem cld_repr_none (q : Q (.str "None") μ) : cld Γ (.builtin "repr") [.non] δ μ Q := cld_of call_repr_none fun F σ H vs a r0 => by
  obtain ⟨v, rfl, r⟩ := r0.one
  rw [dpN r]; exact ⟨rfl, PostE.here a dps q⟩
end
end PD
namespace LW
open PySem PySem.Spec PyProof.Rows L2 PD
def top (i : Nat) : Stmt := PySem.Challenge.pw_joinsback_k01_errors_and_what_they_keep.main.body.getD i (.Pass ⟨0, 0, 0, 0⟩)
abbrev sInvalidRow_init : Stmt := inClass (top 2) 0
abbrev sInvalidStore_init : Stmt := inClass (top 3) 0
abbrev sInvalidText_init : Stmt := inClass (top 4) 0
abbrev sInvalidEvent_init : Stmt := inClass (top 5) 0
abbrev sRefused_init : Stmt := inClass (top 8) 0
abbrev sNoRow_init : Stmt := inClass (top 9) 0
abbrev sNoDeed_init : Stmt := inClass (top 10) 0
abbrev sNoEvent_init : Stmt := inClass (top 11) 0
abbrev sdeal : Stmt := top 13
abbrev sdraw : Stmt := top 14
abbrev spick : Stmt := top 15
abbrev sbases : Stmt := top 16
abbrev sdue : Stmt := top 17
abbrev smade : Stmt := top 18
abbrev slaw : Stmt := top 19
def dd (at_ : Str × Option Str) (x q : Str) (st : Stmt) (dfl : List He.Dv) (kwd : List (Str × He.Dv)) : He.DefD := ⟨at_, x, q, defArgs st, defBody st, defScope st, dfl, kwd⟩
def dInvalidRow_init : He.DefD := dd ("InvalidRow", some "__init__") "__init__" "InvalidRow.__init__" sInvalidRow_init [] []
def dInvalidStore_init : He.DefD := dd ("InvalidStore", some "__init__") "__init__" "InvalidStore.__init__" sInvalidStore_init [] []
def dInvalidText_init : He.DefD := dd ("InvalidText", some "__init__") "__init__" "InvalidText.__init__" sInvalidText_init [] []
def dInvalidEvent_init : He.DefD := dd ("InvalidEvent", some "__init__") "__init__" "InvalidEvent.__init__" sInvalidEvent_init [] []
def dRefused_init : He.DefD := dd ("Refused", some "__init__") "__init__" "Refused.__init__" sRefused_init [] []
def dNoRow_init : He.DefD := dd ("NoRow", some "__init__") "__init__" "NoRow.__init__" sNoRow_init [] []
def dNoDeed_init : He.DefD := dd ("NoDeed", some "__init__") "__init__" "NoDeed.__init__" sNoDeed_init [] []
def dNoEvent_init : He.DefD := dd ("NoEvent", some "__init__") "__init__" "NoEvent.__init__" sNoEvent_init [] []
def ddeal : He.DefD := dd ("_law_deal", none) "_law_deal" "_law_deal" sdeal [] []
def ddraw : He.DefD := dd ("_law_draw", none) "_law_draw" "_law_draw" sdraw [] []
def dpick : He.DefD := dd ("_law_pick", none) "_law_pick" "_law_pick" spick [] []
def dbases : He.DefD := dd ("_law_bases", none) "_law_bases" "_law_bases" sbases [] []
def ddue : He.DefD := dd ("_law_due", none) "_law_due" "_law_due" sdue [] []
def dmade : He.DefD := dd ("_law_made", none) "_law_made" "_law_made" smade [] []
def dlaw : He.DefD := dd ("law", none) "law" "law" slaw [] []
def fx : List He5.DefA := []
def fn : List He.DefD := [dInvalidRow_init, dInvalidStore_init, dInvalidText_init, dInvalidEvent_init, dRefused_init, dNoRow_init, dNoDeed_init, dNoEvent_init, ddeal, ddraw, dpick, dbases, ddue, dmade, dlaw]
def fa0 : List He.Fa := [.glo "EndError", .glo "InvalidRow", .glo "InvalidStore", .glo "InvalidText", .glo "InvalidEvent", .glo "InvalidGoal", .glo "InvalidCommand", .glo "Refused", .glo "NoRow", .glo "NoDeed", .glo "NoEvent", .glo "_law_deal"]
def fa1 : List He.Fa := [.glo "_law_draw", .glo "_law_pick", .glo "_law_bases", .glo "_law_due", .glo "_law_made", .glo "law", .free "IndexError", .free "ValueError", .free "abs", .free "int", .free "isinstance", .free "len"]
def fa2 : List He.Fa := [.free "range", .free "repr"]
def fa : List He.Fa := fa0 ++ (fa1 ++ (fa2))
def exs0 : List (PySem.W.Frag → Bool) := [fun K => oexgB "ValueError.__new__" tlVE K (He.ga K "InvalidRow"), fun K => He.eqO (PySem.W.findIn K (.ref (He.ga K "InvalidRow")) "word") (some none), fun K => He.eqO (PySem.W.findIn K (.ref (He.ga K "InvalidRow")) "__init__") (some (some (.ref (He.ma K (He.ga K "InvalidRow") "__init__")))), fun K => decide (PySem.W.typeIn K (.ref (He.ma K (He.ga K "InvalidRow") "__init__")) = some (.type "function")), fun K => excCB K (He.ga K "InvalidRow"), fun K => decide (PySem.W.kitOne K (.ref (He.ga K "InvalidRow")) (.type "IndexError") = some false), fun K => decide (PySem.W.kitOne K (.ref (He.ga K "InvalidRow")) (.type "ValueError") = some true), fun K => decide (PySem.W.kitOne K (.ref (He.ga K "InvalidRow")) (.ref (He.ga K "EndError")) = some true), fun K => decide (PySem.W.kitOne K (.ref (He.ga K "InvalidRow")) (.ref (He.ga K "InvalidRow")) = some true), fun K => decide (PySem.W.kitOne K (.ref (He.ga K "InvalidRow")) (.ref (He.ga K "InvalidStore")) = some false), fun K => decide (PySem.W.kitOne K (.ref (He.ga K "InvalidRow")) (.ref (He.ga K "InvalidText")) = some false), fun K => decide (PySem.W.kitOne K (.ref (He.ga K "InvalidRow")) (.ref (He.ga K "InvalidEvent")) = some false)]
def exs1 : List (PySem.W.Frag → Bool) := [fun K => decide (PySem.W.kitOne K (.ref (He.ga K "InvalidRow")) (.ref (He.ga K "InvalidGoal")) = some false), fun K => decide (PySem.W.kitOne K (.ref (He.ga K "InvalidRow")) (.ref (He.ga K "InvalidCommand")) = some false), fun K => decide (PySem.W.kitOne K (.ref (He.ga K "InvalidRow")) (.ref (He.ga K "Refused")) = some false), fun K => decide (PySem.W.kitOne K (.ref (He.ga K "InvalidRow")) (.ref (He.ga K "NoRow")) = some false), fun K => decide (PySem.W.kitOne K (.ref (He.ga K "InvalidRow")) (.ref (He.ga K "NoDeed")) = some false), fun K => decide (PySem.W.kitOne K (.ref (He.ga K "InvalidRow")) (.ref (He.ga K "NoEvent")) = some false), fun K => oexgB "ValueError.__new__" tlVE K (He.ga K "InvalidStore"), fun K => He.eqO (PySem.W.findIn K (.ref (He.ga K "InvalidStore")) "word") (some none), fun K => He.eqO (PySem.W.findIn K (.ref (He.ga K "InvalidStore")) "__init__") (some (some (.ref (He.ma K (He.ga K "InvalidStore") "__init__")))), fun K => decide (PySem.W.typeIn K (.ref (He.ma K (He.ga K "InvalidStore") "__init__")) = some (.type "function")), fun K => excCB K (He.ga K "InvalidStore"), fun K => decide (PySem.W.kitOne K (.ref (He.ga K "InvalidStore")) (.type "IndexError") = some false)]
def exs2 : List (PySem.W.Frag → Bool) := [fun K => decide (PySem.W.kitOne K (.ref (He.ga K "InvalidStore")) (.type "ValueError") = some true), fun K => decide (PySem.W.kitOne K (.ref (He.ga K "InvalidStore")) (.ref (He.ga K "EndError")) = some true), fun K => decide (PySem.W.kitOne K (.ref (He.ga K "InvalidStore")) (.ref (He.ga K "InvalidRow")) = some false), fun K => decide (PySem.W.kitOne K (.ref (He.ga K "InvalidStore")) (.ref (He.ga K "InvalidStore")) = some true), fun K => decide (PySem.W.kitOne K (.ref (He.ga K "InvalidStore")) (.ref (He.ga K "InvalidText")) = some false), fun K => decide (PySem.W.kitOne K (.ref (He.ga K "InvalidStore")) (.ref (He.ga K "InvalidEvent")) = some false), fun K => decide (PySem.W.kitOne K (.ref (He.ga K "InvalidStore")) (.ref (He.ga K "InvalidGoal")) = some false), fun K => decide (PySem.W.kitOne K (.ref (He.ga K "InvalidStore")) (.ref (He.ga K "InvalidCommand")) = some false), fun K => decide (PySem.W.kitOne K (.ref (He.ga K "InvalidStore")) (.ref (He.ga K "Refused")) = some false), fun K => decide (PySem.W.kitOne K (.ref (He.ga K "InvalidStore")) (.ref (He.ga K "NoRow")) = some false), fun K => decide (PySem.W.kitOne K (.ref (He.ga K "InvalidStore")) (.ref (He.ga K "NoDeed")) = some false), fun K => decide (PySem.W.kitOne K (.ref (He.ga K "InvalidStore")) (.ref (He.ga K "NoEvent")) = some false)]
def exs3 : List (PySem.W.Frag → Bool) := [fun K => oexgB "ValueError.__new__" tlVE K (He.ga K "InvalidText"), fun K => He.eqO (PySem.W.findIn K (.ref (He.ga K "InvalidText")) "at") (some none), fun K => He.eqO (PySem.W.findIn K (.ref (He.ga K "InvalidText")) "__init__") (some (some (.ref (He.ma K (He.ga K "InvalidText") "__init__")))), fun K => decide (PySem.W.typeIn K (.ref (He.ma K (He.ga K "InvalidText") "__init__")) = some (.type "function")), fun K => excCB K (He.ga K "InvalidText"), fun K => decide (PySem.W.kitOne K (.ref (He.ga K "InvalidText")) (.type "IndexError") = some false), fun K => decide (PySem.W.kitOne K (.ref (He.ga K "InvalidText")) (.type "ValueError") = some true), fun K => decide (PySem.W.kitOne K (.ref (He.ga K "InvalidText")) (.ref (He.ga K "EndError")) = some true), fun K => decide (PySem.W.kitOne K (.ref (He.ga K "InvalidText")) (.ref (He.ga K "InvalidRow")) = some false), fun K => decide (PySem.W.kitOne K (.ref (He.ga K "InvalidText")) (.ref (He.ga K "InvalidStore")) = some false), fun K => decide (PySem.W.kitOne K (.ref (He.ga K "InvalidText")) (.ref (He.ga K "InvalidText")) = some true), fun K => decide (PySem.W.kitOne K (.ref (He.ga K "InvalidText")) (.ref (He.ga K "InvalidEvent")) = some false)]
def exs4 : List (PySem.W.Frag → Bool) := [fun K => decide (PySem.W.kitOne K (.ref (He.ga K "InvalidText")) (.ref (He.ga K "InvalidGoal")) = some false), fun K => decide (PySem.W.kitOne K (.ref (He.ga K "InvalidText")) (.ref (He.ga K "InvalidCommand")) = some false), fun K => decide (PySem.W.kitOne K (.ref (He.ga K "InvalidText")) (.ref (He.ga K "Refused")) = some false), fun K => decide (PySem.W.kitOne K (.ref (He.ga K "InvalidText")) (.ref (He.ga K "NoRow")) = some false), fun K => decide (PySem.W.kitOne K (.ref (He.ga K "InvalidText")) (.ref (He.ga K "NoDeed")) = some false), fun K => decide (PySem.W.kitOne K (.ref (He.ga K "InvalidText")) (.ref (He.ga K "NoEvent")) = some false), fun K => oexgB "ValueError.__new__" tlVE K (He.ga K "InvalidEvent"), fun K => He.eqO (PySem.W.findIn K (.ref (He.ga K "InvalidEvent")) "at") (some none), fun K => He.eqO (PySem.W.findIn K (.ref (He.ga K "InvalidEvent")) "__init__") (some (some (.ref (He.ma K (He.ga K "InvalidEvent") "__init__")))), fun K => decide (PySem.W.typeIn K (.ref (He.ma K (He.ga K "InvalidEvent") "__init__")) = some (.type "function")), fun K => excCB K (He.ga K "InvalidEvent"), fun K => decide (PySem.W.kitOne K (.ref (He.ga K "InvalidEvent")) (.type "IndexError") = some false)]
def exs5 : List (PySem.W.Frag → Bool) := [fun K => decide (PySem.W.kitOne K (.ref (He.ga K "InvalidEvent")) (.type "ValueError") = some true), fun K => decide (PySem.W.kitOne K (.ref (He.ga K "InvalidEvent")) (.ref (He.ga K "EndError")) = some true), fun K => decide (PySem.W.kitOne K (.ref (He.ga K "InvalidEvent")) (.ref (He.ga K "InvalidRow")) = some false), fun K => decide (PySem.W.kitOne K (.ref (He.ga K "InvalidEvent")) (.ref (He.ga K "InvalidStore")) = some false), fun K => decide (PySem.W.kitOne K (.ref (He.ga K "InvalidEvent")) (.ref (He.ga K "InvalidText")) = some false), fun K => decide (PySem.W.kitOne K (.ref (He.ga K "InvalidEvent")) (.ref (He.ga K "InvalidEvent")) = some true), fun K => decide (PySem.W.kitOne K (.ref (He.ga K "InvalidEvent")) (.ref (He.ga K "InvalidGoal")) = some false), fun K => decide (PySem.W.kitOne K (.ref (He.ga K "InvalidEvent")) (.ref (He.ga K "InvalidCommand")) = some false), fun K => decide (PySem.W.kitOne K (.ref (He.ga K "InvalidEvent")) (.ref (He.ga K "Refused")) = some false), fun K => decide (PySem.W.kitOne K (.ref (He.ga K "InvalidEvent")) (.ref (He.ga K "NoRow")) = some false), fun K => decide (PySem.W.kitOne K (.ref (He.ga K "InvalidEvent")) (.ref (He.ga K "NoDeed")) = some false), fun K => decide (PySem.W.kitOne K (.ref (He.ga K "InvalidEvent")) (.ref (He.ga K "NoEvent")) = some false)]
def exs6 : List (PySem.W.Frag → Bool) := [fun K => oexgB "ValueError.__new__" tlVE K (He.ga K "Refused"), fun K => He.eqO (PySem.W.findIn K (.ref (He.ga K "Refused")) "at") (some none), fun K => He.eqO (PySem.W.findIn K (.ref (He.ga K "Refused")) "__init__") (some (some (.ref (He.ma K (He.ga K "Refused") "__init__")))), fun K => decide (PySem.W.typeIn K (.ref (He.ma K (He.ga K "Refused") "__init__")) = some (.type "function")), fun K => excCB K (He.ga K "Refused"), fun K => decide (PySem.W.kitOne K (.ref (He.ga K "Refused")) (.type "IndexError") = some false), fun K => decide (PySem.W.kitOne K (.ref (He.ga K "Refused")) (.type "ValueError") = some true), fun K => decide (PySem.W.kitOne K (.ref (He.ga K "Refused")) (.ref (He.ga K "EndError")) = some true), fun K => decide (PySem.W.kitOne K (.ref (He.ga K "Refused")) (.ref (He.ga K "InvalidRow")) = some false), fun K => decide (PySem.W.kitOne K (.ref (He.ga K "Refused")) (.ref (He.ga K "InvalidStore")) = some false), fun K => decide (PySem.W.kitOne K (.ref (He.ga K "Refused")) (.ref (He.ga K "InvalidText")) = some false), fun K => decide (PySem.W.kitOne K (.ref (He.ga K "Refused")) (.ref (He.ga K "InvalidEvent")) = some false)]
def exs7 : List (PySem.W.Frag → Bool) := [fun K => decide (PySem.W.kitOne K (.ref (He.ga K "Refused")) (.ref (He.ga K "InvalidGoal")) = some false), fun K => decide (PySem.W.kitOne K (.ref (He.ga K "Refused")) (.ref (He.ga K "InvalidCommand")) = some false), fun K => decide (PySem.W.kitOne K (.ref (He.ga K "Refused")) (.ref (He.ga K "Refused")) = some true), fun K => decide (PySem.W.kitOne K (.ref (He.ga K "Refused")) (.ref (He.ga K "NoRow")) = some false), fun K => decide (PySem.W.kitOne K (.ref (He.ga K "Refused")) (.ref (He.ga K "NoDeed")) = some false), fun K => decide (PySem.W.kitOne K (.ref (He.ga K "Refused")) (.ref (He.ga K "NoEvent")) = some false), fun K => oexgB "IndexError.__new__" tlIE K (He.ga K "NoRow"), fun K => He.eqO (PySem.W.findIn K (.ref (He.ga K "NoRow")) "at") (some none), fun K => He.eqO (PySem.W.findIn K (.ref (He.ga K "NoRow")) "__init__") (some (some (.ref (He.ma K (He.ga K "NoRow") "__init__")))), fun K => decide (PySem.W.typeIn K (.ref (He.ma K (He.ga K "NoRow") "__init__")) = some (.type "function")), fun K => excCB K (He.ga K "NoRow"), fun K => decide (PySem.W.kitOne K (.ref (He.ga K "NoRow")) (.type "IndexError") = some true)]
def exs8 : List (PySem.W.Frag → Bool) := [fun K => decide (PySem.W.kitOne K (.ref (He.ga K "NoRow")) (.type "ValueError") = some false), fun K => decide (PySem.W.kitOne K (.ref (He.ga K "NoRow")) (.ref (He.ga K "EndError")) = some false), fun K => decide (PySem.W.kitOne K (.ref (He.ga K "NoRow")) (.ref (He.ga K "InvalidRow")) = some false), fun K => decide (PySem.W.kitOne K (.ref (He.ga K "NoRow")) (.ref (He.ga K "InvalidStore")) = some false), fun K => decide (PySem.W.kitOne K (.ref (He.ga K "NoRow")) (.ref (He.ga K "InvalidText")) = some false), fun K => decide (PySem.W.kitOne K (.ref (He.ga K "NoRow")) (.ref (He.ga K "InvalidEvent")) = some false), fun K => decide (PySem.W.kitOne K (.ref (He.ga K "NoRow")) (.ref (He.ga K "InvalidGoal")) = some false), fun K => decide (PySem.W.kitOne K (.ref (He.ga K "NoRow")) (.ref (He.ga K "InvalidCommand")) = some false), fun K => decide (PySem.W.kitOne K (.ref (He.ga K "NoRow")) (.ref (He.ga K "Refused")) = some false), fun K => decide (PySem.W.kitOne K (.ref (He.ga K "NoRow")) (.ref (He.ga K "NoRow")) = some true), fun K => decide (PySem.W.kitOne K (.ref (He.ga K "NoRow")) (.ref (He.ga K "NoDeed")) = some false), fun K => decide (PySem.W.kitOne K (.ref (He.ga K "NoRow")) (.ref (He.ga K "NoEvent")) = some false)]
def exs9 : List (PySem.W.Frag → Bool) := [fun K => oexgB "IndexError.__new__" tlIE K (He.ga K "NoDeed"), fun K => He.eqO (PySem.W.findIn K (.ref (He.ga K "NoDeed")) "at") (some none), fun K => He.eqO (PySem.W.findIn K (.ref (He.ga K "NoDeed")) "__init__") (some (some (.ref (He.ma K (He.ga K "NoDeed") "__init__")))), fun K => decide (PySem.W.typeIn K (.ref (He.ma K (He.ga K "NoDeed") "__init__")) = some (.type "function")), fun K => excCB K (He.ga K "NoDeed"), fun K => decide (PySem.W.kitOne K (.ref (He.ga K "NoDeed")) (.type "IndexError") = some true), fun K => decide (PySem.W.kitOne K (.ref (He.ga K "NoDeed")) (.type "ValueError") = some false), fun K => decide (PySem.W.kitOne K (.ref (He.ga K "NoDeed")) (.ref (He.ga K "EndError")) = some false), fun K => decide (PySem.W.kitOne K (.ref (He.ga K "NoDeed")) (.ref (He.ga K "InvalidRow")) = some false), fun K => decide (PySem.W.kitOne K (.ref (He.ga K "NoDeed")) (.ref (He.ga K "InvalidStore")) = some false), fun K => decide (PySem.W.kitOne K (.ref (He.ga K "NoDeed")) (.ref (He.ga K "InvalidText")) = some false), fun K => decide (PySem.W.kitOne K (.ref (He.ga K "NoDeed")) (.ref (He.ga K "InvalidEvent")) = some false)]
def exs10 : List (PySem.W.Frag → Bool) := [fun K => decide (PySem.W.kitOne K (.ref (He.ga K "NoDeed")) (.ref (He.ga K "InvalidGoal")) = some false), fun K => decide (PySem.W.kitOne K (.ref (He.ga K "NoDeed")) (.ref (He.ga K "InvalidCommand")) = some false), fun K => decide (PySem.W.kitOne K (.ref (He.ga K "NoDeed")) (.ref (He.ga K "Refused")) = some false), fun K => decide (PySem.W.kitOne K (.ref (He.ga K "NoDeed")) (.ref (He.ga K "NoRow")) = some false), fun K => decide (PySem.W.kitOne K (.ref (He.ga K "NoDeed")) (.ref (He.ga K "NoDeed")) = some true), fun K => decide (PySem.W.kitOne K (.ref (He.ga K "NoDeed")) (.ref (He.ga K "NoEvent")) = some false), fun K => oexgB "IndexError.__new__" tlIE K (He.ga K "NoEvent"), fun K => He.eqO (PySem.W.findIn K (.ref (He.ga K "NoEvent")) "at") (some none), fun K => He.eqO (PySem.W.findIn K (.ref (He.ga K "NoEvent")) "__init__") (some (some (.ref (He.ma K (He.ga K "NoEvent") "__init__")))), fun K => decide (PySem.W.typeIn K (.ref (He.ma K (He.ga K "NoEvent") "__init__")) = some (.type "function")), fun K => excCB K (He.ga K "NoEvent"), fun K => decide (PySem.W.kitOne K (.ref (He.ga K "NoEvent")) (.type "IndexError") = some true)]
def exs11 : List (PySem.W.Frag → Bool) := [fun K => decide (PySem.W.kitOne K (.ref (He.ga K "NoEvent")) (.type "ValueError") = some false), fun K => decide (PySem.W.kitOne K (.ref (He.ga K "NoEvent")) (.ref (He.ga K "EndError")) = some false), fun K => decide (PySem.W.kitOne K (.ref (He.ga K "NoEvent")) (.ref (He.ga K "InvalidRow")) = some false), fun K => decide (PySem.W.kitOne K (.ref (He.ga K "NoEvent")) (.ref (He.ga K "InvalidStore")) = some false), fun K => decide (PySem.W.kitOne K (.ref (He.ga K "NoEvent")) (.ref (He.ga K "InvalidText")) = some false), fun K => decide (PySem.W.kitOne K (.ref (He.ga K "NoEvent")) (.ref (He.ga K "InvalidEvent")) = some false), fun K => decide (PySem.W.kitOne K (.ref (He.ga K "NoEvent")) (.ref (He.ga K "InvalidGoal")) = some false), fun K => decide (PySem.W.kitOne K (.ref (He.ga K "NoEvent")) (.ref (He.ga K "InvalidCommand")) = some false), fun K => decide (PySem.W.kitOne K (.ref (He.ga K "NoEvent")) (.ref (He.ga K "Refused")) = some false), fun K => decide (PySem.W.kitOne K (.ref (He.ga K "NoEvent")) (.ref (He.ga K "NoRow")) = some false), fun K => decide (PySem.W.kitOne K (.ref (He.ga K "NoEvent")) (.ref (He.ga K "NoDeed")) = some false), fun K => decide (PySem.W.kitOne K (.ref (He.ga K "NoEvent")) (.ref (He.ga K "NoEvent")) = some true)]
def exs12 : List (PySem.W.Frag → Bool) := [fun K => PySem.W.excIn K (He.ga K "EndError") tlVE "ValueError.__new__", fun K => PySem.W.keepIn K (.ref (He.ga K "EndError")), fun K => excCB K (He.ga K "EndError"), fun K => decide (PySem.W.kitOne K (.ref (He.ga K "EndError")) (.type "IndexError") = some false), fun K => decide (PySem.W.kitOne K (.ref (He.ga K "EndError")) (.type "ValueError") = some true), fun K => decide (PySem.W.kitOne K (.ref (He.ga K "EndError")) (.ref (He.ga K "EndError")) = some true), fun K => decide (PySem.W.kitOne K (.ref (He.ga K "EndError")) (.ref (He.ga K "InvalidRow")) = some false), fun K => decide (PySem.W.kitOne K (.ref (He.ga K "EndError")) (.ref (He.ga K "InvalidStore")) = some false), fun K => decide (PySem.W.kitOne K (.ref (He.ga K "EndError")) (.ref (He.ga K "InvalidText")) = some false), fun K => decide (PySem.W.kitOne K (.ref (He.ga K "EndError")) (.ref (He.ga K "InvalidEvent")) = some false), fun K => decide (PySem.W.kitOne K (.ref (He.ga K "EndError")) (.ref (He.ga K "InvalidGoal")) = some false), fun K => decide (PySem.W.kitOne K (.ref (He.ga K "EndError")) (.ref (He.ga K "InvalidCommand")) = some false)]
def exs13 : List (PySem.W.Frag → Bool) := [fun K => decide (PySem.W.kitOne K (.ref (He.ga K "EndError")) (.ref (He.ga K "Refused")) = some false), fun K => decide (PySem.W.kitOne K (.ref (He.ga K "EndError")) (.ref (He.ga K "NoRow")) = some false), fun K => decide (PySem.W.kitOne K (.ref (He.ga K "EndError")) (.ref (He.ga K "NoDeed")) = some false), fun K => decide (PySem.W.kitOne K (.ref (He.ga K "EndError")) (.ref (He.ga K "NoEvent")) = some false), fun K => PySem.W.excIn K (He.ga K "InvalidGoal") tlVE "ValueError.__new__", fun K => PySem.W.keepIn K (.ref (He.ga K "InvalidGoal")), fun K => excCB K (He.ga K "InvalidGoal"), fun K => decide (PySem.W.kitOne K (.ref (He.ga K "InvalidGoal")) (.type "IndexError") = some false), fun K => decide (PySem.W.kitOne K (.ref (He.ga K "InvalidGoal")) (.type "ValueError") = some true), fun K => decide (PySem.W.kitOne K (.ref (He.ga K "InvalidGoal")) (.ref (He.ga K "EndError")) = some true), fun K => decide (PySem.W.kitOne K (.ref (He.ga K "InvalidGoal")) (.ref (He.ga K "InvalidRow")) = some false), fun K => decide (PySem.W.kitOne K (.ref (He.ga K "InvalidGoal")) (.ref (He.ga K "InvalidStore")) = some false)]
def exs14 : List (PySem.W.Frag → Bool) := [fun K => decide (PySem.W.kitOne K (.ref (He.ga K "InvalidGoal")) (.ref (He.ga K "InvalidText")) = some false), fun K => decide (PySem.W.kitOne K (.ref (He.ga K "InvalidGoal")) (.ref (He.ga K "InvalidEvent")) = some false), fun K => decide (PySem.W.kitOne K (.ref (He.ga K "InvalidGoal")) (.ref (He.ga K "InvalidGoal")) = some true), fun K => decide (PySem.W.kitOne K (.ref (He.ga K "InvalidGoal")) (.ref (He.ga K "InvalidCommand")) = some false), fun K => decide (PySem.W.kitOne K (.ref (He.ga K "InvalidGoal")) (.ref (He.ga K "Refused")) = some false), fun K => decide (PySem.W.kitOne K (.ref (He.ga K "InvalidGoal")) (.ref (He.ga K "NoRow")) = some false), fun K => decide (PySem.W.kitOne K (.ref (He.ga K "InvalidGoal")) (.ref (He.ga K "NoDeed")) = some false), fun K => decide (PySem.W.kitOne K (.ref (He.ga K "InvalidGoal")) (.ref (He.ga K "NoEvent")) = some false), fun K => PySem.W.excIn K (He.ga K "InvalidCommand") tlVE "ValueError.__new__", fun K => PySem.W.keepIn K (.ref (He.ga K "InvalidCommand")), fun K => excCB K (He.ga K "InvalidCommand"), fun K => decide (PySem.W.kitOne K (.ref (He.ga K "InvalidCommand")) (.type "IndexError") = some false)]
def exs15 : List (PySem.W.Frag → Bool) := [fun K => decide (PySem.W.kitOne K (.ref (He.ga K "InvalidCommand")) (.type "ValueError") = some true), fun K => decide (PySem.W.kitOne K (.ref (He.ga K "InvalidCommand")) (.ref (He.ga K "EndError")) = some true), fun K => decide (PySem.W.kitOne K (.ref (He.ga K "InvalidCommand")) (.ref (He.ga K "InvalidRow")) = some false), fun K => decide (PySem.W.kitOne K (.ref (He.ga K "InvalidCommand")) (.ref (He.ga K "InvalidStore")) = some false), fun K => decide (PySem.W.kitOne K (.ref (He.ga K "InvalidCommand")) (.ref (He.ga K "InvalidText")) = some false), fun K => decide (PySem.W.kitOne K (.ref (He.ga K "InvalidCommand")) (.ref (He.ga K "InvalidEvent")) = some false), fun K => decide (PySem.W.kitOne K (.ref (He.ga K "InvalidCommand")) (.ref (He.ga K "InvalidGoal")) = some false), fun K => decide (PySem.W.kitOne K (.ref (He.ga K "InvalidCommand")) (.ref (He.ga K "InvalidCommand")) = some true), fun K => decide (PySem.W.kitOne K (.ref (He.ga K "InvalidCommand")) (.ref (He.ga K "Refused")) = some false), fun K => decide (PySem.W.kitOne K (.ref (He.ga K "InvalidCommand")) (.ref (He.ga K "NoRow")) = some false), fun K => decide (PySem.W.kitOne K (.ref (He.ga K "InvalidCommand")) (.ref (He.ga K "NoDeed")) = some false), fun K => decide (PySem.W.kitOne K (.ref (He.ga K "InvalidCommand")) (.ref (He.ga K "NoEvent")) = some false)]
def exs : List (PySem.W.Frag → Bool) := exs0 ++ (exs1 ++ (exs2 ++ (exs3 ++ (exs4 ++ (exs5 ++ (exs6 ++ (exs7 ++ (exs8 ++ (exs9 ++ (exs10 ++ (exs11 ++ (exs12 ++ (exs13 ++ (exs14 ++ (exs15)))))))))))))))
def ex (K : PySem.W.Frag) : Bool := exs.all fun f => f K
def ts : List He.Tab := []
abbrev T0 (w : World) (K : PySem.W.Frag) (mg : Str → Option Value) : Prop := TXP fa fn fx ts ex w K mg
section
variable {w : World} {K : PySem.W.Frag} {mg : Str → Option Value} (T : T0 w K mg)
include T
theorem g_EndError : mg "EndError" = some (.ref (He.ga K "EndError")) := T.g 0
theorem g_InvalidRow : mg "InvalidRow" = some (.ref (He.ga K "InvalidRow")) := T.g 1
theorem g_InvalidStore : mg "InvalidStore" = some (.ref (He.ga K "InvalidStore")) := T.g 2
theorem g_InvalidText : mg "InvalidText" = some (.ref (He.ga K "InvalidText")) := T.g 3
theorem g_InvalidEvent : mg "InvalidEvent" = some (.ref (He.ga K "InvalidEvent")) := T.g 4
theorem g_InvalidGoal : mg "InvalidGoal" = some (.ref (He.ga K "InvalidGoal")) := T.g 5
theorem g_InvalidCommand : mg "InvalidCommand" = some (.ref (He.ga K "InvalidCommand")) := T.g 6
theorem g_Refused : mg "Refused" = some (.ref (He.ga K "Refused")) := T.g 7
theorem g_NoRow : mg "NoRow" = some (.ref (He.ga K "NoRow")) := T.g 8
theorem g_NoDeed : mg "NoDeed" = some (.ref (He.ga K "NoDeed")) := T.g 9
theorem g_NoEvent : mg "NoEvent" = some (.ref (He.ga K "NoEvent")) := T.g 10
theorem g_deal : mg "_law_deal" = some (.ref (He.ga K "_law_deal")) := T.g 11
theorem g_draw : mg "_law_draw" = some (.ref (He.ga K "_law_draw")) := T.g 12
theorem g_pick : mg "_law_pick" = some (.ref (He.ga K "_law_pick")) := T.g 13
theorem g_bases : mg "_law_bases" = some (.ref (He.ga K "_law_bases")) := T.g 14
theorem g_due : mg "_law_due" = some (.ref (He.ga K "_law_due")) := T.g 15
theorem g_made : mg "_law_made" = some (.ref (He.ga K "_law_made")) := T.g 16
theorem g_law : mg "law" = some (.ref (He.ga K "law")) := T.g 17
theorem b_IndexError : mg "IndexError" = none := T.f 18
theorem b_ValueError : mg "ValueError" = none := T.f 19
theorem b_abs : mg "abs" = none := T.f 20
theorem b_int : mg "int" = none := T.f 21
theorem b_isinstance : mg "isinstance" = none := T.f 22
theorem b_len : mg "len" = none := T.f 23
theorem b_range : mg "range" = none := T.f 24
theorem b_repr : mg "repr" = none := T.f 25
theorem xg_InvalidRow : OexG "ValueError.__new__" tlVE K (He.ga K "InvalidRow") := oexgB_ok (allK (f := fun K => oexgB "ValueError.__new__" tlVE K (He.ga K "InvalidRow")) T.more 0)
theorem xn_InvalidRow : PySem.W.findIn K (.ref (He.ga K "InvalidRow")) "word" = some none := He.eqO_ok (allK (f := fun K => He.eqO (PySem.W.findIn K (.ref (He.ga K "InvalidRow")) "word") (some none)) T.more 1)
theorem xi_InvalidRow : PySem.W.findIn K (.ref (He.ga K "InvalidRow")) "__init__" = some (some (.ref (He.ma K (He.ga K "InvalidRow") "__init__"))) := He.eqO_ok (allK (f := fun K => He.eqO (PySem.W.findIn K (.ref (He.ga K "InvalidRow")) "__init__") (some (some (.ref (He.ma K (He.ga K "InvalidRow") "__init__"))))) T.more 2)
theorem xt_InvalidRow : PySem.W.typeIn K (.ref (He.ma K (He.ga K "InvalidRow") "__init__")) = some (.type "function") := of_decide_eq_true (allK (f := fun K => decide (PySem.W.typeIn K (.ref (He.ma K (He.ga K "InvalidRow") "__init__")) = some (.type "function"))) T.more 3)
theorem xc_InvalidRow : ExcC K (He.ga K "InvalidRow") := excCB_ok (allK (f := fun K => excCB K (He.ga K "InvalidRow")) T.more 4)
theorem xk_InvalidRow_IndexError : PySem.W.kitOne K (.ref (He.ga K "InvalidRow")) (.type "IndexError") = some false := of_decide_eq_true (allK (f := fun K => decide (PySem.W.kitOne K (.ref (He.ga K "InvalidRow")) (.type "IndexError") = some false)) T.more 5)
theorem xk_InvalidRow_ValueError : PySem.W.kitOne K (.ref (He.ga K "InvalidRow")) (.type "ValueError") = some true := of_decide_eq_true (allK (f := fun K => decide (PySem.W.kitOne K (.ref (He.ga K "InvalidRow")) (.type "ValueError") = some true)) T.more 6)
theorem xk_InvalidRow_EndError : PySem.W.kitOne K (.ref (He.ga K "InvalidRow")) (.ref (He.ga K "EndError")) = some true := of_decide_eq_true (allK (f := fun K => decide (PySem.W.kitOne K (.ref (He.ga K "InvalidRow")) (.ref (He.ga K "EndError")) = some true)) T.more 7)
theorem xk_InvalidRow_InvalidRow : PySem.W.kitOne K (.ref (He.ga K "InvalidRow")) (.ref (He.ga K "InvalidRow")) = some true := of_decide_eq_true (allK (f := fun K => decide (PySem.W.kitOne K (.ref (He.ga K "InvalidRow")) (.ref (He.ga K "InvalidRow")) = some true)) T.more 8)
theorem xk_InvalidRow_InvalidStore : PySem.W.kitOne K (.ref (He.ga K "InvalidRow")) (.ref (He.ga K "InvalidStore")) = some false := of_decide_eq_true (allK (f := fun K => decide (PySem.W.kitOne K (.ref (He.ga K "InvalidRow")) (.ref (He.ga K "InvalidStore")) = some false)) T.more 9)
theorem xk_InvalidRow_InvalidText : PySem.W.kitOne K (.ref (He.ga K "InvalidRow")) (.ref (He.ga K "InvalidText")) = some false := of_decide_eq_true (allK (f := fun K => decide (PySem.W.kitOne K (.ref (He.ga K "InvalidRow")) (.ref (He.ga K "InvalidText")) = some false)) T.more 10)
theorem xk_InvalidRow_InvalidEvent : PySem.W.kitOne K (.ref (He.ga K "InvalidRow")) (.ref (He.ga K "InvalidEvent")) = some false := of_decide_eq_true (allK (f := fun K => decide (PySem.W.kitOne K (.ref (He.ga K "InvalidRow")) (.ref (He.ga K "InvalidEvent")) = some false)) T.more 11)
theorem xk_InvalidRow_InvalidGoal : PySem.W.kitOne K (.ref (He.ga K "InvalidRow")) (.ref (He.ga K "InvalidGoal")) = some false := of_decide_eq_true (allK (f := fun K => decide (PySem.W.kitOne K (.ref (He.ga K "InvalidRow")) (.ref (He.ga K "InvalidGoal")) = some false)) T.more 12)
theorem xk_InvalidRow_InvalidCommand : PySem.W.kitOne K (.ref (He.ga K "InvalidRow")) (.ref (He.ga K "InvalidCommand")) = some false := of_decide_eq_true (allK (f := fun K => decide (PySem.W.kitOne K (.ref (He.ga K "InvalidRow")) (.ref (He.ga K "InvalidCommand")) = some false)) T.more 13)
theorem xk_InvalidRow_Refused : PySem.W.kitOne K (.ref (He.ga K "InvalidRow")) (.ref (He.ga K "Refused")) = some false := of_decide_eq_true (allK (f := fun K => decide (PySem.W.kitOne K (.ref (He.ga K "InvalidRow")) (.ref (He.ga K "Refused")) = some false)) T.more 14)
theorem xk_InvalidRow_NoRow : PySem.W.kitOne K (.ref (He.ga K "InvalidRow")) (.ref (He.ga K "NoRow")) = some false := of_decide_eq_true (allK (f := fun K => decide (PySem.W.kitOne K (.ref (He.ga K "InvalidRow")) (.ref (He.ga K "NoRow")) = some false)) T.more 15)
theorem xk_InvalidRow_NoDeed : PySem.W.kitOne K (.ref (He.ga K "InvalidRow")) (.ref (He.ga K "NoDeed")) = some false := of_decide_eq_true (allK (f := fun K => decide (PySem.W.kitOne K (.ref (He.ga K "InvalidRow")) (.ref (He.ga K "NoDeed")) = some false)) T.more 16)
theorem xk_InvalidRow_NoEvent : PySem.W.kitOne K (.ref (He.ga K "InvalidRow")) (.ref (He.ga K "NoEvent")) = some false := of_decide_eq_true (allK (f := fun K => decide (PySem.W.kitOne K (.ref (He.ga K "InvalidRow")) (.ref (He.ga K "NoEvent")) = some false)) T.more 17)
theorem xg_InvalidStore : OexG "ValueError.__new__" tlVE K (He.ga K "InvalidStore") := oexgB_ok (allK (f := fun K => oexgB "ValueError.__new__" tlVE K (He.ga K "InvalidStore")) T.more 18)
theorem xn_InvalidStore : PySem.W.findIn K (.ref (He.ga K "InvalidStore")) "word" = some none := He.eqO_ok (allK (f := fun K => He.eqO (PySem.W.findIn K (.ref (He.ga K "InvalidStore")) "word") (some none)) T.more 19)
theorem xi_InvalidStore : PySem.W.findIn K (.ref (He.ga K "InvalidStore")) "__init__" = some (some (.ref (He.ma K (He.ga K "InvalidStore") "__init__"))) := He.eqO_ok (allK (f := fun K => He.eqO (PySem.W.findIn K (.ref (He.ga K "InvalidStore")) "__init__") (some (some (.ref (He.ma K (He.ga K "InvalidStore") "__init__"))))) T.more 20)
theorem xt_InvalidStore : PySem.W.typeIn K (.ref (He.ma K (He.ga K "InvalidStore") "__init__")) = some (.type "function") := of_decide_eq_true (allK (f := fun K => decide (PySem.W.typeIn K (.ref (He.ma K (He.ga K "InvalidStore") "__init__")) = some (.type "function"))) T.more 21)
theorem xc_InvalidStore : ExcC K (He.ga K "InvalidStore") := excCB_ok (allK (f := fun K => excCB K (He.ga K "InvalidStore")) T.more 22)
theorem xk_InvalidStore_IndexError : PySem.W.kitOne K (.ref (He.ga K "InvalidStore")) (.type "IndexError") = some false := of_decide_eq_true (allK (f := fun K => decide (PySem.W.kitOne K (.ref (He.ga K "InvalidStore")) (.type "IndexError") = some false)) T.more 23)
theorem xk_InvalidStore_ValueError : PySem.W.kitOne K (.ref (He.ga K "InvalidStore")) (.type "ValueError") = some true := of_decide_eq_true (allK (f := fun K => decide (PySem.W.kitOne K (.ref (He.ga K "InvalidStore")) (.type "ValueError") = some true)) T.more 24)
theorem xk_InvalidStore_EndError : PySem.W.kitOne K (.ref (He.ga K "InvalidStore")) (.ref (He.ga K "EndError")) = some true := of_decide_eq_true (allK (f := fun K => decide (PySem.W.kitOne K (.ref (He.ga K "InvalidStore")) (.ref (He.ga K "EndError")) = some true)) T.more 25)
theorem xk_InvalidStore_InvalidRow : PySem.W.kitOne K (.ref (He.ga K "InvalidStore")) (.ref (He.ga K "InvalidRow")) = some false := of_decide_eq_true (allK (f := fun K => decide (PySem.W.kitOne K (.ref (He.ga K "InvalidStore")) (.ref (He.ga K "InvalidRow")) = some false)) T.more 26)
theorem xk_InvalidStore_InvalidStore : PySem.W.kitOne K (.ref (He.ga K "InvalidStore")) (.ref (He.ga K "InvalidStore")) = some true := of_decide_eq_true (allK (f := fun K => decide (PySem.W.kitOne K (.ref (He.ga K "InvalidStore")) (.ref (He.ga K "InvalidStore")) = some true)) T.more 27)
theorem xk_InvalidStore_InvalidText : PySem.W.kitOne K (.ref (He.ga K "InvalidStore")) (.ref (He.ga K "InvalidText")) = some false := of_decide_eq_true (allK (f := fun K => decide (PySem.W.kitOne K (.ref (He.ga K "InvalidStore")) (.ref (He.ga K "InvalidText")) = some false)) T.more 28)
theorem xk_InvalidStore_InvalidEvent : PySem.W.kitOne K (.ref (He.ga K "InvalidStore")) (.ref (He.ga K "InvalidEvent")) = some false := of_decide_eq_true (allK (f := fun K => decide (PySem.W.kitOne K (.ref (He.ga K "InvalidStore")) (.ref (He.ga K "InvalidEvent")) = some false)) T.more 29)
theorem xk_InvalidStore_InvalidGoal : PySem.W.kitOne K (.ref (He.ga K "InvalidStore")) (.ref (He.ga K "InvalidGoal")) = some false := of_decide_eq_true (allK (f := fun K => decide (PySem.W.kitOne K (.ref (He.ga K "InvalidStore")) (.ref (He.ga K "InvalidGoal")) = some false)) T.more 30)
theorem xk_InvalidStore_InvalidCommand : PySem.W.kitOne K (.ref (He.ga K "InvalidStore")) (.ref (He.ga K "InvalidCommand")) = some false := of_decide_eq_true (allK (f := fun K => decide (PySem.W.kitOne K (.ref (He.ga K "InvalidStore")) (.ref (He.ga K "InvalidCommand")) = some false)) T.more 31)
theorem xk_InvalidStore_Refused : PySem.W.kitOne K (.ref (He.ga K "InvalidStore")) (.ref (He.ga K "Refused")) = some false := of_decide_eq_true (allK (f := fun K => decide (PySem.W.kitOne K (.ref (He.ga K "InvalidStore")) (.ref (He.ga K "Refused")) = some false)) T.more 32)
theorem xk_InvalidStore_NoRow : PySem.W.kitOne K (.ref (He.ga K "InvalidStore")) (.ref (He.ga K "NoRow")) = some false := of_decide_eq_true (allK (f := fun K => decide (PySem.W.kitOne K (.ref (He.ga K "InvalidStore")) (.ref (He.ga K "NoRow")) = some false)) T.more 33)
theorem xk_InvalidStore_NoDeed : PySem.W.kitOne K (.ref (He.ga K "InvalidStore")) (.ref (He.ga K "NoDeed")) = some false := of_decide_eq_true (allK (f := fun K => decide (PySem.W.kitOne K (.ref (He.ga K "InvalidStore")) (.ref (He.ga K "NoDeed")) = some false)) T.more 34)
theorem xk_InvalidStore_NoEvent : PySem.W.kitOne K (.ref (He.ga K "InvalidStore")) (.ref (He.ga K "NoEvent")) = some false := of_decide_eq_true (allK (f := fun K => decide (PySem.W.kitOne K (.ref (He.ga K "InvalidStore")) (.ref (He.ga K "NoEvent")) = some false)) T.more 35)
theorem xg_InvalidText : OexG "ValueError.__new__" tlVE K (He.ga K "InvalidText") := oexgB_ok (allK (f := fun K => oexgB "ValueError.__new__" tlVE K (He.ga K "InvalidText")) T.more 36)
theorem xn_InvalidText : PySem.W.findIn K (.ref (He.ga K "InvalidText")) "at" = some none := He.eqO_ok (allK (f := fun K => He.eqO (PySem.W.findIn K (.ref (He.ga K "InvalidText")) "at") (some none)) T.more 37)
theorem xi_InvalidText : PySem.W.findIn K (.ref (He.ga K "InvalidText")) "__init__" = some (some (.ref (He.ma K (He.ga K "InvalidText") "__init__"))) := He.eqO_ok (allK (f := fun K => He.eqO (PySem.W.findIn K (.ref (He.ga K "InvalidText")) "__init__") (some (some (.ref (He.ma K (He.ga K "InvalidText") "__init__"))))) T.more 38)
theorem xt_InvalidText : PySem.W.typeIn K (.ref (He.ma K (He.ga K "InvalidText") "__init__")) = some (.type "function") := of_decide_eq_true (allK (f := fun K => decide (PySem.W.typeIn K (.ref (He.ma K (He.ga K "InvalidText") "__init__")) = some (.type "function"))) T.more 39)
theorem xc_InvalidText : ExcC K (He.ga K "InvalidText") := excCB_ok (allK (f := fun K => excCB K (He.ga K "InvalidText")) T.more 40)
theorem xk_InvalidText_IndexError : PySem.W.kitOne K (.ref (He.ga K "InvalidText")) (.type "IndexError") = some false := of_decide_eq_true (allK (f := fun K => decide (PySem.W.kitOne K (.ref (He.ga K "InvalidText")) (.type "IndexError") = some false)) T.more 41)
theorem xk_InvalidText_ValueError : PySem.W.kitOne K (.ref (He.ga K "InvalidText")) (.type "ValueError") = some true := of_decide_eq_true (allK (f := fun K => decide (PySem.W.kitOne K (.ref (He.ga K "InvalidText")) (.type "ValueError") = some true)) T.more 42)
theorem xk_InvalidText_EndError : PySem.W.kitOne K (.ref (He.ga K "InvalidText")) (.ref (He.ga K "EndError")) = some true := of_decide_eq_true (allK (f := fun K => decide (PySem.W.kitOne K (.ref (He.ga K "InvalidText")) (.ref (He.ga K "EndError")) = some true)) T.more 43)
theorem xk_InvalidText_InvalidRow : PySem.W.kitOne K (.ref (He.ga K "InvalidText")) (.ref (He.ga K "InvalidRow")) = some false := of_decide_eq_true (allK (f := fun K => decide (PySem.W.kitOne K (.ref (He.ga K "InvalidText")) (.ref (He.ga K "InvalidRow")) = some false)) T.more 44)
theorem xk_InvalidText_InvalidStore : PySem.W.kitOne K (.ref (He.ga K "InvalidText")) (.ref (He.ga K "InvalidStore")) = some false := of_decide_eq_true (allK (f := fun K => decide (PySem.W.kitOne K (.ref (He.ga K "InvalidText")) (.ref (He.ga K "InvalidStore")) = some false)) T.more 45)
theorem xk_InvalidText_InvalidText : PySem.W.kitOne K (.ref (He.ga K "InvalidText")) (.ref (He.ga K "InvalidText")) = some true := of_decide_eq_true (allK (f := fun K => decide (PySem.W.kitOne K (.ref (He.ga K "InvalidText")) (.ref (He.ga K "InvalidText")) = some true)) T.more 46)
theorem xk_InvalidText_InvalidEvent : PySem.W.kitOne K (.ref (He.ga K "InvalidText")) (.ref (He.ga K "InvalidEvent")) = some false := of_decide_eq_true (allK (f := fun K => decide (PySem.W.kitOne K (.ref (He.ga K "InvalidText")) (.ref (He.ga K "InvalidEvent")) = some false)) T.more 47)
theorem xk_InvalidText_InvalidGoal : PySem.W.kitOne K (.ref (He.ga K "InvalidText")) (.ref (He.ga K "InvalidGoal")) = some false := of_decide_eq_true (allK (f := fun K => decide (PySem.W.kitOne K (.ref (He.ga K "InvalidText")) (.ref (He.ga K "InvalidGoal")) = some false)) T.more 48)
theorem xk_InvalidText_InvalidCommand : PySem.W.kitOne K (.ref (He.ga K "InvalidText")) (.ref (He.ga K "InvalidCommand")) = some false := of_decide_eq_true (allK (f := fun K => decide (PySem.W.kitOne K (.ref (He.ga K "InvalidText")) (.ref (He.ga K "InvalidCommand")) = some false)) T.more 49)
theorem xk_InvalidText_Refused : PySem.W.kitOne K (.ref (He.ga K "InvalidText")) (.ref (He.ga K "Refused")) = some false := of_decide_eq_true (allK (f := fun K => decide (PySem.W.kitOne K (.ref (He.ga K "InvalidText")) (.ref (He.ga K "Refused")) = some false)) T.more 50)
theorem xk_InvalidText_NoRow : PySem.W.kitOne K (.ref (He.ga K "InvalidText")) (.ref (He.ga K "NoRow")) = some false := of_decide_eq_true (allK (f := fun K => decide (PySem.W.kitOne K (.ref (He.ga K "InvalidText")) (.ref (He.ga K "NoRow")) = some false)) T.more 51)
theorem xk_InvalidText_NoDeed : PySem.W.kitOne K (.ref (He.ga K "InvalidText")) (.ref (He.ga K "NoDeed")) = some false := of_decide_eq_true (allK (f := fun K => decide (PySem.W.kitOne K (.ref (He.ga K "InvalidText")) (.ref (He.ga K "NoDeed")) = some false)) T.more 52)
theorem xk_InvalidText_NoEvent : PySem.W.kitOne K (.ref (He.ga K "InvalidText")) (.ref (He.ga K "NoEvent")) = some false := of_decide_eq_true (allK (f := fun K => decide (PySem.W.kitOne K (.ref (He.ga K "InvalidText")) (.ref (He.ga K "NoEvent")) = some false)) T.more 53)
theorem xg_InvalidEvent : OexG "ValueError.__new__" tlVE K (He.ga K "InvalidEvent") := oexgB_ok (allK (f := fun K => oexgB "ValueError.__new__" tlVE K (He.ga K "InvalidEvent")) T.more 54)
theorem xn_InvalidEvent : PySem.W.findIn K (.ref (He.ga K "InvalidEvent")) "at" = some none := He.eqO_ok (allK (f := fun K => He.eqO (PySem.W.findIn K (.ref (He.ga K "InvalidEvent")) "at") (some none)) T.more 55)
theorem xi_InvalidEvent : PySem.W.findIn K (.ref (He.ga K "InvalidEvent")) "__init__" = some (some (.ref (He.ma K (He.ga K "InvalidEvent") "__init__"))) := He.eqO_ok (allK (f := fun K => He.eqO (PySem.W.findIn K (.ref (He.ga K "InvalidEvent")) "__init__") (some (some (.ref (He.ma K (He.ga K "InvalidEvent") "__init__"))))) T.more 56)
theorem xt_InvalidEvent : PySem.W.typeIn K (.ref (He.ma K (He.ga K "InvalidEvent") "__init__")) = some (.type "function") := of_decide_eq_true (allK (f := fun K => decide (PySem.W.typeIn K (.ref (He.ma K (He.ga K "InvalidEvent") "__init__")) = some (.type "function"))) T.more 57)
theorem xc_InvalidEvent : ExcC K (He.ga K "InvalidEvent") := excCB_ok (allK (f := fun K => excCB K (He.ga K "InvalidEvent")) T.more 58)
theorem xk_InvalidEvent_IndexError : PySem.W.kitOne K (.ref (He.ga K "InvalidEvent")) (.type "IndexError") = some false := of_decide_eq_true (allK (f := fun K => decide (PySem.W.kitOne K (.ref (He.ga K "InvalidEvent")) (.type "IndexError") = some false)) T.more 59)
theorem xk_InvalidEvent_ValueError : PySem.W.kitOne K (.ref (He.ga K "InvalidEvent")) (.type "ValueError") = some true := of_decide_eq_true (allK (f := fun K => decide (PySem.W.kitOne K (.ref (He.ga K "InvalidEvent")) (.type "ValueError") = some true)) T.more 60)
theorem xk_InvalidEvent_EndError : PySem.W.kitOne K (.ref (He.ga K "InvalidEvent")) (.ref (He.ga K "EndError")) = some true := of_decide_eq_true (allK (f := fun K => decide (PySem.W.kitOne K (.ref (He.ga K "InvalidEvent")) (.ref (He.ga K "EndError")) = some true)) T.more 61)
theorem xk_InvalidEvent_InvalidRow : PySem.W.kitOne K (.ref (He.ga K "InvalidEvent")) (.ref (He.ga K "InvalidRow")) = some false := of_decide_eq_true (allK (f := fun K => decide (PySem.W.kitOne K (.ref (He.ga K "InvalidEvent")) (.ref (He.ga K "InvalidRow")) = some false)) T.more 62)
theorem xk_InvalidEvent_InvalidStore : PySem.W.kitOne K (.ref (He.ga K "InvalidEvent")) (.ref (He.ga K "InvalidStore")) = some false := of_decide_eq_true (allK (f := fun K => decide (PySem.W.kitOne K (.ref (He.ga K "InvalidEvent")) (.ref (He.ga K "InvalidStore")) = some false)) T.more 63)
theorem xk_InvalidEvent_InvalidText : PySem.W.kitOne K (.ref (He.ga K "InvalidEvent")) (.ref (He.ga K "InvalidText")) = some false := of_decide_eq_true (allK (f := fun K => decide (PySem.W.kitOne K (.ref (He.ga K "InvalidEvent")) (.ref (He.ga K "InvalidText")) = some false)) T.more 64)
theorem xk_InvalidEvent_InvalidEvent : PySem.W.kitOne K (.ref (He.ga K "InvalidEvent")) (.ref (He.ga K "InvalidEvent")) = some true := of_decide_eq_true (allK (f := fun K => decide (PySem.W.kitOne K (.ref (He.ga K "InvalidEvent")) (.ref (He.ga K "InvalidEvent")) = some true)) T.more 65)
theorem xk_InvalidEvent_InvalidGoal : PySem.W.kitOne K (.ref (He.ga K "InvalidEvent")) (.ref (He.ga K "InvalidGoal")) = some false := of_decide_eq_true (allK (f := fun K => decide (PySem.W.kitOne K (.ref (He.ga K "InvalidEvent")) (.ref (He.ga K "InvalidGoal")) = some false)) T.more 66)
theorem xk_InvalidEvent_InvalidCommand : PySem.W.kitOne K (.ref (He.ga K "InvalidEvent")) (.ref (He.ga K "InvalidCommand")) = some false := of_decide_eq_true (allK (f := fun K => decide (PySem.W.kitOne K (.ref (He.ga K "InvalidEvent")) (.ref (He.ga K "InvalidCommand")) = some false)) T.more 67)
theorem xk_InvalidEvent_Refused : PySem.W.kitOne K (.ref (He.ga K "InvalidEvent")) (.ref (He.ga K "Refused")) = some false := of_decide_eq_true (allK (f := fun K => decide (PySem.W.kitOne K (.ref (He.ga K "InvalidEvent")) (.ref (He.ga K "Refused")) = some false)) T.more 68)
theorem xk_InvalidEvent_NoRow : PySem.W.kitOne K (.ref (He.ga K "InvalidEvent")) (.ref (He.ga K "NoRow")) = some false := of_decide_eq_true (allK (f := fun K => decide (PySem.W.kitOne K (.ref (He.ga K "InvalidEvent")) (.ref (He.ga K "NoRow")) = some false)) T.more 69)
theorem xk_InvalidEvent_NoDeed : PySem.W.kitOne K (.ref (He.ga K "InvalidEvent")) (.ref (He.ga K "NoDeed")) = some false := of_decide_eq_true (allK (f := fun K => decide (PySem.W.kitOne K (.ref (He.ga K "InvalidEvent")) (.ref (He.ga K "NoDeed")) = some false)) T.more 70)
theorem xk_InvalidEvent_NoEvent : PySem.W.kitOne K (.ref (He.ga K "InvalidEvent")) (.ref (He.ga K "NoEvent")) = some false := of_decide_eq_true (allK (f := fun K => decide (PySem.W.kitOne K (.ref (He.ga K "InvalidEvent")) (.ref (He.ga K "NoEvent")) = some false)) T.more 71)
theorem xg_Refused : OexG "ValueError.__new__" tlVE K (He.ga K "Refused") := oexgB_ok (allK (f := fun K => oexgB "ValueError.__new__" tlVE K (He.ga K "Refused")) T.more 72)
theorem xn_Refused : PySem.W.findIn K (.ref (He.ga K "Refused")) "at" = some none := He.eqO_ok (allK (f := fun K => He.eqO (PySem.W.findIn K (.ref (He.ga K "Refused")) "at") (some none)) T.more 73)
theorem xi_Refused : PySem.W.findIn K (.ref (He.ga K "Refused")) "__init__" = some (some (.ref (He.ma K (He.ga K "Refused") "__init__"))) := He.eqO_ok (allK (f := fun K => He.eqO (PySem.W.findIn K (.ref (He.ga K "Refused")) "__init__") (some (some (.ref (He.ma K (He.ga K "Refused") "__init__"))))) T.more 74)
theorem xt_Refused : PySem.W.typeIn K (.ref (He.ma K (He.ga K "Refused") "__init__")) = some (.type "function") := of_decide_eq_true (allK (f := fun K => decide (PySem.W.typeIn K (.ref (He.ma K (He.ga K "Refused") "__init__")) = some (.type "function"))) T.more 75)
theorem xc_Refused : ExcC K (He.ga K "Refused") := excCB_ok (allK (f := fun K => excCB K (He.ga K "Refused")) T.more 76)
theorem xk_Refused_IndexError : PySem.W.kitOne K (.ref (He.ga K "Refused")) (.type "IndexError") = some false := of_decide_eq_true (allK (f := fun K => decide (PySem.W.kitOne K (.ref (He.ga K "Refused")) (.type "IndexError") = some false)) T.more 77)
theorem xk_Refused_ValueError : PySem.W.kitOne K (.ref (He.ga K "Refused")) (.type "ValueError") = some true := of_decide_eq_true (allK (f := fun K => decide (PySem.W.kitOne K (.ref (He.ga K "Refused")) (.type "ValueError") = some true)) T.more 78)
theorem xk_Refused_EndError : PySem.W.kitOne K (.ref (He.ga K "Refused")) (.ref (He.ga K "EndError")) = some true := of_decide_eq_true (allK (f := fun K => decide (PySem.W.kitOne K (.ref (He.ga K "Refused")) (.ref (He.ga K "EndError")) = some true)) T.more 79)
theorem xk_Refused_InvalidRow : PySem.W.kitOne K (.ref (He.ga K "Refused")) (.ref (He.ga K "InvalidRow")) = some false := of_decide_eq_true (allK (f := fun K => decide (PySem.W.kitOne K (.ref (He.ga K "Refused")) (.ref (He.ga K "InvalidRow")) = some false)) T.more 80)
theorem xk_Refused_InvalidStore : PySem.W.kitOne K (.ref (He.ga K "Refused")) (.ref (He.ga K "InvalidStore")) = some false := of_decide_eq_true (allK (f := fun K => decide (PySem.W.kitOne K (.ref (He.ga K "Refused")) (.ref (He.ga K "InvalidStore")) = some false)) T.more 81)
theorem xk_Refused_InvalidText : PySem.W.kitOne K (.ref (He.ga K "Refused")) (.ref (He.ga K "InvalidText")) = some false := of_decide_eq_true (allK (f := fun K => decide (PySem.W.kitOne K (.ref (He.ga K "Refused")) (.ref (He.ga K "InvalidText")) = some false)) T.more 82)
theorem xk_Refused_InvalidEvent : PySem.W.kitOne K (.ref (He.ga K "Refused")) (.ref (He.ga K "InvalidEvent")) = some false := of_decide_eq_true (allK (f := fun K => decide (PySem.W.kitOne K (.ref (He.ga K "Refused")) (.ref (He.ga K "InvalidEvent")) = some false)) T.more 83)
theorem xk_Refused_InvalidGoal : PySem.W.kitOne K (.ref (He.ga K "Refused")) (.ref (He.ga K "InvalidGoal")) = some false := of_decide_eq_true (allK (f := fun K => decide (PySem.W.kitOne K (.ref (He.ga K "Refused")) (.ref (He.ga K "InvalidGoal")) = some false)) T.more 84)
theorem xk_Refused_InvalidCommand : PySem.W.kitOne K (.ref (He.ga K "Refused")) (.ref (He.ga K "InvalidCommand")) = some false := of_decide_eq_true (allK (f := fun K => decide (PySem.W.kitOne K (.ref (He.ga K "Refused")) (.ref (He.ga K "InvalidCommand")) = some false)) T.more 85)
theorem xk_Refused_Refused : PySem.W.kitOne K (.ref (He.ga K "Refused")) (.ref (He.ga K "Refused")) = some true := of_decide_eq_true (allK (f := fun K => decide (PySem.W.kitOne K (.ref (He.ga K "Refused")) (.ref (He.ga K "Refused")) = some true)) T.more 86)
theorem xk_Refused_NoRow : PySem.W.kitOne K (.ref (He.ga K "Refused")) (.ref (He.ga K "NoRow")) = some false := of_decide_eq_true (allK (f := fun K => decide (PySem.W.kitOne K (.ref (He.ga K "Refused")) (.ref (He.ga K "NoRow")) = some false)) T.more 87)
theorem xk_Refused_NoDeed : PySem.W.kitOne K (.ref (He.ga K "Refused")) (.ref (He.ga K "NoDeed")) = some false := of_decide_eq_true (allK (f := fun K => decide (PySem.W.kitOne K (.ref (He.ga K "Refused")) (.ref (He.ga K "NoDeed")) = some false)) T.more 88)
theorem xk_Refused_NoEvent : PySem.W.kitOne K (.ref (He.ga K "Refused")) (.ref (He.ga K "NoEvent")) = some false := of_decide_eq_true (allK (f := fun K => decide (PySem.W.kitOne K (.ref (He.ga K "Refused")) (.ref (He.ga K "NoEvent")) = some false)) T.more 89)
theorem xg_NoRow : OexG "IndexError.__new__" tlIE K (He.ga K "NoRow") := oexgB_ok (allK (f := fun K => oexgB "IndexError.__new__" tlIE K (He.ga K "NoRow")) T.more 90)
theorem xn_NoRow : PySem.W.findIn K (.ref (He.ga K "NoRow")) "at" = some none := He.eqO_ok (allK (f := fun K => He.eqO (PySem.W.findIn K (.ref (He.ga K "NoRow")) "at") (some none)) T.more 91)
theorem xi_NoRow : PySem.W.findIn K (.ref (He.ga K "NoRow")) "__init__" = some (some (.ref (He.ma K (He.ga K "NoRow") "__init__"))) := He.eqO_ok (allK (f := fun K => He.eqO (PySem.W.findIn K (.ref (He.ga K "NoRow")) "__init__") (some (some (.ref (He.ma K (He.ga K "NoRow") "__init__"))))) T.more 92)
theorem xt_NoRow : PySem.W.typeIn K (.ref (He.ma K (He.ga K "NoRow") "__init__")) = some (.type "function") := of_decide_eq_true (allK (f := fun K => decide (PySem.W.typeIn K (.ref (He.ma K (He.ga K "NoRow") "__init__")) = some (.type "function"))) T.more 93)
theorem xc_NoRow : ExcC K (He.ga K "NoRow") := excCB_ok (allK (f := fun K => excCB K (He.ga K "NoRow")) T.more 94)
theorem xk_NoRow_IndexError : PySem.W.kitOne K (.ref (He.ga K "NoRow")) (.type "IndexError") = some true := of_decide_eq_true (allK (f := fun K => decide (PySem.W.kitOne K (.ref (He.ga K "NoRow")) (.type "IndexError") = some true)) T.more 95)
theorem xk_NoRow_ValueError : PySem.W.kitOne K (.ref (He.ga K "NoRow")) (.type "ValueError") = some false := of_decide_eq_true (allK (f := fun K => decide (PySem.W.kitOne K (.ref (He.ga K "NoRow")) (.type "ValueError") = some false)) T.more 96)
theorem xk_NoRow_EndError : PySem.W.kitOne K (.ref (He.ga K "NoRow")) (.ref (He.ga K "EndError")) = some false := of_decide_eq_true (allK (f := fun K => decide (PySem.W.kitOne K (.ref (He.ga K "NoRow")) (.ref (He.ga K "EndError")) = some false)) T.more 97)
theorem xk_NoRow_InvalidRow : PySem.W.kitOne K (.ref (He.ga K "NoRow")) (.ref (He.ga K "InvalidRow")) = some false := of_decide_eq_true (allK (f := fun K => decide (PySem.W.kitOne K (.ref (He.ga K "NoRow")) (.ref (He.ga K "InvalidRow")) = some false)) T.more 98)
theorem xk_NoRow_InvalidStore : PySem.W.kitOne K (.ref (He.ga K "NoRow")) (.ref (He.ga K "InvalidStore")) = some false := of_decide_eq_true (allK (f := fun K => decide (PySem.W.kitOne K (.ref (He.ga K "NoRow")) (.ref (He.ga K "InvalidStore")) = some false)) T.more 99)
theorem xk_NoRow_InvalidText : PySem.W.kitOne K (.ref (He.ga K "NoRow")) (.ref (He.ga K "InvalidText")) = some false := of_decide_eq_true (allK (f := fun K => decide (PySem.W.kitOne K (.ref (He.ga K "NoRow")) (.ref (He.ga K "InvalidText")) = some false)) T.more 100)
theorem xk_NoRow_InvalidEvent : PySem.W.kitOne K (.ref (He.ga K "NoRow")) (.ref (He.ga K "InvalidEvent")) = some false := of_decide_eq_true (allK (f := fun K => decide (PySem.W.kitOne K (.ref (He.ga K "NoRow")) (.ref (He.ga K "InvalidEvent")) = some false)) T.more 101)
theorem xk_NoRow_InvalidGoal : PySem.W.kitOne K (.ref (He.ga K "NoRow")) (.ref (He.ga K "InvalidGoal")) = some false := of_decide_eq_true (allK (f := fun K => decide (PySem.W.kitOne K (.ref (He.ga K "NoRow")) (.ref (He.ga K "InvalidGoal")) = some false)) T.more 102)
theorem xk_NoRow_InvalidCommand : PySem.W.kitOne K (.ref (He.ga K "NoRow")) (.ref (He.ga K "InvalidCommand")) = some false := of_decide_eq_true (allK (f := fun K => decide (PySem.W.kitOne K (.ref (He.ga K "NoRow")) (.ref (He.ga K "InvalidCommand")) = some false)) T.more 103)
theorem xk_NoRow_Refused : PySem.W.kitOne K (.ref (He.ga K "NoRow")) (.ref (He.ga K "Refused")) = some false := of_decide_eq_true (allK (f := fun K => decide (PySem.W.kitOne K (.ref (He.ga K "NoRow")) (.ref (He.ga K "Refused")) = some false)) T.more 104)
theorem xk_NoRow_NoRow : PySem.W.kitOne K (.ref (He.ga K "NoRow")) (.ref (He.ga K "NoRow")) = some true := of_decide_eq_true (allK (f := fun K => decide (PySem.W.kitOne K (.ref (He.ga K "NoRow")) (.ref (He.ga K "NoRow")) = some true)) T.more 105)
theorem xk_NoRow_NoDeed : PySem.W.kitOne K (.ref (He.ga K "NoRow")) (.ref (He.ga K "NoDeed")) = some false := of_decide_eq_true (allK (f := fun K => decide (PySem.W.kitOne K (.ref (He.ga K "NoRow")) (.ref (He.ga K "NoDeed")) = some false)) T.more 106)
theorem xk_NoRow_NoEvent : PySem.W.kitOne K (.ref (He.ga K "NoRow")) (.ref (He.ga K "NoEvent")) = some false := of_decide_eq_true (allK (f := fun K => decide (PySem.W.kitOne K (.ref (He.ga K "NoRow")) (.ref (He.ga K "NoEvent")) = some false)) T.more 107)
theorem xg_NoDeed : OexG "IndexError.__new__" tlIE K (He.ga K "NoDeed") := oexgB_ok (allK (f := fun K => oexgB "IndexError.__new__" tlIE K (He.ga K "NoDeed")) T.more 108)
theorem xn_NoDeed : PySem.W.findIn K (.ref (He.ga K "NoDeed")) "at" = some none := He.eqO_ok (allK (f := fun K => He.eqO (PySem.W.findIn K (.ref (He.ga K "NoDeed")) "at") (some none)) T.more 109)
theorem xi_NoDeed : PySem.W.findIn K (.ref (He.ga K "NoDeed")) "__init__" = some (some (.ref (He.ma K (He.ga K "NoDeed") "__init__"))) := He.eqO_ok (allK (f := fun K => He.eqO (PySem.W.findIn K (.ref (He.ga K "NoDeed")) "__init__") (some (some (.ref (He.ma K (He.ga K "NoDeed") "__init__"))))) T.more 110)
theorem xt_NoDeed : PySem.W.typeIn K (.ref (He.ma K (He.ga K "NoDeed") "__init__")) = some (.type "function") := of_decide_eq_true (allK (f := fun K => decide (PySem.W.typeIn K (.ref (He.ma K (He.ga K "NoDeed") "__init__")) = some (.type "function"))) T.more 111)
theorem xc_NoDeed : ExcC K (He.ga K "NoDeed") := excCB_ok (allK (f := fun K => excCB K (He.ga K "NoDeed")) T.more 112)
theorem xk_NoDeed_IndexError : PySem.W.kitOne K (.ref (He.ga K "NoDeed")) (.type "IndexError") = some true := of_decide_eq_true (allK (f := fun K => decide (PySem.W.kitOne K (.ref (He.ga K "NoDeed")) (.type "IndexError") = some true)) T.more 113)
theorem xk_NoDeed_ValueError : PySem.W.kitOne K (.ref (He.ga K "NoDeed")) (.type "ValueError") = some false := of_decide_eq_true (allK (f := fun K => decide (PySem.W.kitOne K (.ref (He.ga K "NoDeed")) (.type "ValueError") = some false)) T.more 114)
theorem xk_NoDeed_EndError : PySem.W.kitOne K (.ref (He.ga K "NoDeed")) (.ref (He.ga K "EndError")) = some false := of_decide_eq_true (allK (f := fun K => decide (PySem.W.kitOne K (.ref (He.ga K "NoDeed")) (.ref (He.ga K "EndError")) = some false)) T.more 115)
theorem xk_NoDeed_InvalidRow : PySem.W.kitOne K (.ref (He.ga K "NoDeed")) (.ref (He.ga K "InvalidRow")) = some false := of_decide_eq_true (allK (f := fun K => decide (PySem.W.kitOne K (.ref (He.ga K "NoDeed")) (.ref (He.ga K "InvalidRow")) = some false)) T.more 116)
theorem xk_NoDeed_InvalidStore : PySem.W.kitOne K (.ref (He.ga K "NoDeed")) (.ref (He.ga K "InvalidStore")) = some false := of_decide_eq_true (allK (f := fun K => decide (PySem.W.kitOne K (.ref (He.ga K "NoDeed")) (.ref (He.ga K "InvalidStore")) = some false)) T.more 117)
theorem xk_NoDeed_InvalidText : PySem.W.kitOne K (.ref (He.ga K "NoDeed")) (.ref (He.ga K "InvalidText")) = some false := of_decide_eq_true (allK (f := fun K => decide (PySem.W.kitOne K (.ref (He.ga K "NoDeed")) (.ref (He.ga K "InvalidText")) = some false)) T.more 118)
theorem xk_NoDeed_InvalidEvent : PySem.W.kitOne K (.ref (He.ga K "NoDeed")) (.ref (He.ga K "InvalidEvent")) = some false := of_decide_eq_true (allK (f := fun K => decide (PySem.W.kitOne K (.ref (He.ga K "NoDeed")) (.ref (He.ga K "InvalidEvent")) = some false)) T.more 119)
theorem xk_NoDeed_InvalidGoal : PySem.W.kitOne K (.ref (He.ga K "NoDeed")) (.ref (He.ga K "InvalidGoal")) = some false := of_decide_eq_true (allK (f := fun K => decide (PySem.W.kitOne K (.ref (He.ga K "NoDeed")) (.ref (He.ga K "InvalidGoal")) = some false)) T.more 120)
theorem xk_NoDeed_InvalidCommand : PySem.W.kitOne K (.ref (He.ga K "NoDeed")) (.ref (He.ga K "InvalidCommand")) = some false := of_decide_eq_true (allK (f := fun K => decide (PySem.W.kitOne K (.ref (He.ga K "NoDeed")) (.ref (He.ga K "InvalidCommand")) = some false)) T.more 121)
theorem xk_NoDeed_Refused : PySem.W.kitOne K (.ref (He.ga K "NoDeed")) (.ref (He.ga K "Refused")) = some false := of_decide_eq_true (allK (f := fun K => decide (PySem.W.kitOne K (.ref (He.ga K "NoDeed")) (.ref (He.ga K "Refused")) = some false)) T.more 122)
theorem xk_NoDeed_NoRow : PySem.W.kitOne K (.ref (He.ga K "NoDeed")) (.ref (He.ga K "NoRow")) = some false := of_decide_eq_true (allK (f := fun K => decide (PySem.W.kitOne K (.ref (He.ga K "NoDeed")) (.ref (He.ga K "NoRow")) = some false)) T.more 123)
theorem xk_NoDeed_NoDeed : PySem.W.kitOne K (.ref (He.ga K "NoDeed")) (.ref (He.ga K "NoDeed")) = some true := of_decide_eq_true (allK (f := fun K => decide (PySem.W.kitOne K (.ref (He.ga K "NoDeed")) (.ref (He.ga K "NoDeed")) = some true)) T.more 124)
theorem xk_NoDeed_NoEvent : PySem.W.kitOne K (.ref (He.ga K "NoDeed")) (.ref (He.ga K "NoEvent")) = some false := of_decide_eq_true (allK (f := fun K => decide (PySem.W.kitOne K (.ref (He.ga K "NoDeed")) (.ref (He.ga K "NoEvent")) = some false)) T.more 125)
theorem xg_NoEvent : OexG "IndexError.__new__" tlIE K (He.ga K "NoEvent") := oexgB_ok (allK (f := fun K => oexgB "IndexError.__new__" tlIE K (He.ga K "NoEvent")) T.more 126)
theorem xn_NoEvent : PySem.W.findIn K (.ref (He.ga K "NoEvent")) "at" = some none := He.eqO_ok (allK (f := fun K => He.eqO (PySem.W.findIn K (.ref (He.ga K "NoEvent")) "at") (some none)) T.more 127)
theorem xi_NoEvent : PySem.W.findIn K (.ref (He.ga K "NoEvent")) "__init__" = some (some (.ref (He.ma K (He.ga K "NoEvent") "__init__"))) := He.eqO_ok (allK (f := fun K => He.eqO (PySem.W.findIn K (.ref (He.ga K "NoEvent")) "__init__") (some (some (.ref (He.ma K (He.ga K "NoEvent") "__init__"))))) T.more 128)
theorem xt_NoEvent : PySem.W.typeIn K (.ref (He.ma K (He.ga K "NoEvent") "__init__")) = some (.type "function") := of_decide_eq_true (allK (f := fun K => decide (PySem.W.typeIn K (.ref (He.ma K (He.ga K "NoEvent") "__init__")) = some (.type "function"))) T.more 129)
theorem xc_NoEvent : ExcC K (He.ga K "NoEvent") := excCB_ok (allK (f := fun K => excCB K (He.ga K "NoEvent")) T.more 130)
theorem xk_NoEvent_IndexError : PySem.W.kitOne K (.ref (He.ga K "NoEvent")) (.type "IndexError") = some true := of_decide_eq_true (allK (f := fun K => decide (PySem.W.kitOne K (.ref (He.ga K "NoEvent")) (.type "IndexError") = some true)) T.more 131)
theorem xk_NoEvent_ValueError : PySem.W.kitOne K (.ref (He.ga K "NoEvent")) (.type "ValueError") = some false := of_decide_eq_true (allK (f := fun K => decide (PySem.W.kitOne K (.ref (He.ga K "NoEvent")) (.type "ValueError") = some false)) T.more 132)
theorem xk_NoEvent_EndError : PySem.W.kitOne K (.ref (He.ga K "NoEvent")) (.ref (He.ga K "EndError")) = some false := of_decide_eq_true (allK (f := fun K => decide (PySem.W.kitOne K (.ref (He.ga K "NoEvent")) (.ref (He.ga K "EndError")) = some false)) T.more 133)
theorem xk_NoEvent_InvalidRow : PySem.W.kitOne K (.ref (He.ga K "NoEvent")) (.ref (He.ga K "InvalidRow")) = some false := of_decide_eq_true (allK (f := fun K => decide (PySem.W.kitOne K (.ref (He.ga K "NoEvent")) (.ref (He.ga K "InvalidRow")) = some false)) T.more 134)
theorem xk_NoEvent_InvalidStore : PySem.W.kitOne K (.ref (He.ga K "NoEvent")) (.ref (He.ga K "InvalidStore")) = some false := of_decide_eq_true (allK (f := fun K => decide (PySem.W.kitOne K (.ref (He.ga K "NoEvent")) (.ref (He.ga K "InvalidStore")) = some false)) T.more 135)
theorem xk_NoEvent_InvalidText : PySem.W.kitOne K (.ref (He.ga K "NoEvent")) (.ref (He.ga K "InvalidText")) = some false := of_decide_eq_true (allK (f := fun K => decide (PySem.W.kitOne K (.ref (He.ga K "NoEvent")) (.ref (He.ga K "InvalidText")) = some false)) T.more 136)
theorem xk_NoEvent_InvalidEvent : PySem.W.kitOne K (.ref (He.ga K "NoEvent")) (.ref (He.ga K "InvalidEvent")) = some false := of_decide_eq_true (allK (f := fun K => decide (PySem.W.kitOne K (.ref (He.ga K "NoEvent")) (.ref (He.ga K "InvalidEvent")) = some false)) T.more 137)
theorem xk_NoEvent_InvalidGoal : PySem.W.kitOne K (.ref (He.ga K "NoEvent")) (.ref (He.ga K "InvalidGoal")) = some false := of_decide_eq_true (allK (f := fun K => decide (PySem.W.kitOne K (.ref (He.ga K "NoEvent")) (.ref (He.ga K "InvalidGoal")) = some false)) T.more 138)
theorem xk_NoEvent_InvalidCommand : PySem.W.kitOne K (.ref (He.ga K "NoEvent")) (.ref (He.ga K "InvalidCommand")) = some false := of_decide_eq_true (allK (f := fun K => decide (PySem.W.kitOne K (.ref (He.ga K "NoEvent")) (.ref (He.ga K "InvalidCommand")) = some false)) T.more 139)
theorem xk_NoEvent_Refused : PySem.W.kitOne K (.ref (He.ga K "NoEvent")) (.ref (He.ga K "Refused")) = some false := of_decide_eq_true (allK (f := fun K => decide (PySem.W.kitOne K (.ref (He.ga K "NoEvent")) (.ref (He.ga K "Refused")) = some false)) T.more 140)
theorem xk_NoEvent_NoRow : PySem.W.kitOne K (.ref (He.ga K "NoEvent")) (.ref (He.ga K "NoRow")) = some false := of_decide_eq_true (allK (f := fun K => decide (PySem.W.kitOne K (.ref (He.ga K "NoEvent")) (.ref (He.ga K "NoRow")) = some false)) T.more 141)
theorem xk_NoEvent_NoDeed : PySem.W.kitOne K (.ref (He.ga K "NoEvent")) (.ref (He.ga K "NoDeed")) = some false := of_decide_eq_true (allK (f := fun K => decide (PySem.W.kitOne K (.ref (He.ga K "NoEvent")) (.ref (He.ga K "NoDeed")) = some false)) T.more 142)
theorem xk_NoEvent_NoEvent : PySem.W.kitOne K (.ref (He.ga K "NoEvent")) (.ref (He.ga K "NoEvent")) = some true := of_decide_eq_true (allK (f := fun K => decide (PySem.W.kitOne K (.ref (He.ga K "NoEvent")) (.ref (He.ga K "NoEvent")) = some true)) T.more 143)
theorem xe_EndError : PySem.W.excIn K (He.ga K "EndError") tlVE "ValueError.__new__" = true := (allK (f := fun K => PySem.W.excIn K (He.ga K "EndError") tlVE "ValueError.__new__") T.more 144)
theorem xp_EndError : PySem.W.keepIn K (.ref (He.ga K "EndError")) = true := (allK (f := fun K => PySem.W.keepIn K (.ref (He.ga K "EndError"))) T.more 145)
theorem xc_EndError : ExcC K (He.ga K "EndError") := excCB_ok (allK (f := fun K => excCB K (He.ga K "EndError")) T.more 146)
theorem xk_EndError_IndexError : PySem.W.kitOne K (.ref (He.ga K "EndError")) (.type "IndexError") = some false := of_decide_eq_true (allK (f := fun K => decide (PySem.W.kitOne K (.ref (He.ga K "EndError")) (.type "IndexError") = some false)) T.more 147)
theorem xk_EndError_ValueError : PySem.W.kitOne K (.ref (He.ga K "EndError")) (.type "ValueError") = some true := of_decide_eq_true (allK (f := fun K => decide (PySem.W.kitOne K (.ref (He.ga K "EndError")) (.type "ValueError") = some true)) T.more 148)
theorem xk_EndError_EndError : PySem.W.kitOne K (.ref (He.ga K "EndError")) (.ref (He.ga K "EndError")) = some true := of_decide_eq_true (allK (f := fun K => decide (PySem.W.kitOne K (.ref (He.ga K "EndError")) (.ref (He.ga K "EndError")) = some true)) T.more 149)
theorem xk_EndError_InvalidRow : PySem.W.kitOne K (.ref (He.ga K "EndError")) (.ref (He.ga K "InvalidRow")) = some false := of_decide_eq_true (allK (f := fun K => decide (PySem.W.kitOne K (.ref (He.ga K "EndError")) (.ref (He.ga K "InvalidRow")) = some false)) T.more 150)
theorem xk_EndError_InvalidStore : PySem.W.kitOne K (.ref (He.ga K "EndError")) (.ref (He.ga K "InvalidStore")) = some false := of_decide_eq_true (allK (f := fun K => decide (PySem.W.kitOne K (.ref (He.ga K "EndError")) (.ref (He.ga K "InvalidStore")) = some false)) T.more 151)
theorem xk_EndError_InvalidText : PySem.W.kitOne K (.ref (He.ga K "EndError")) (.ref (He.ga K "InvalidText")) = some false := of_decide_eq_true (allK (f := fun K => decide (PySem.W.kitOne K (.ref (He.ga K "EndError")) (.ref (He.ga K "InvalidText")) = some false)) T.more 152)
theorem xk_EndError_InvalidEvent : PySem.W.kitOne K (.ref (He.ga K "EndError")) (.ref (He.ga K "InvalidEvent")) = some false := of_decide_eq_true (allK (f := fun K => decide (PySem.W.kitOne K (.ref (He.ga K "EndError")) (.ref (He.ga K "InvalidEvent")) = some false)) T.more 153)
theorem xk_EndError_InvalidGoal : PySem.W.kitOne K (.ref (He.ga K "EndError")) (.ref (He.ga K "InvalidGoal")) = some false := of_decide_eq_true (allK (f := fun K => decide (PySem.W.kitOne K (.ref (He.ga K "EndError")) (.ref (He.ga K "InvalidGoal")) = some false)) T.more 154)
theorem xk_EndError_InvalidCommand : PySem.W.kitOne K (.ref (He.ga K "EndError")) (.ref (He.ga K "InvalidCommand")) = some false := of_decide_eq_true (allK (f := fun K => decide (PySem.W.kitOne K (.ref (He.ga K "EndError")) (.ref (He.ga K "InvalidCommand")) = some false)) T.more 155)
theorem xk_EndError_Refused : PySem.W.kitOne K (.ref (He.ga K "EndError")) (.ref (He.ga K "Refused")) = some false := of_decide_eq_true (allK (f := fun K => decide (PySem.W.kitOne K (.ref (He.ga K "EndError")) (.ref (He.ga K "Refused")) = some false)) T.more 156)
theorem xk_EndError_NoRow : PySem.W.kitOne K (.ref (He.ga K "EndError")) (.ref (He.ga K "NoRow")) = some false := of_decide_eq_true (allK (f := fun K => decide (PySem.W.kitOne K (.ref (He.ga K "EndError")) (.ref (He.ga K "NoRow")) = some false)) T.more 157)
theorem xk_EndError_NoDeed : PySem.W.kitOne K (.ref (He.ga K "EndError")) (.ref (He.ga K "NoDeed")) = some false := of_decide_eq_true (allK (f := fun K => decide (PySem.W.kitOne K (.ref (He.ga K "EndError")) (.ref (He.ga K "NoDeed")) = some false)) T.more 158)
theorem xk_EndError_NoEvent : PySem.W.kitOne K (.ref (He.ga K "EndError")) (.ref (He.ga K "NoEvent")) = some false := of_decide_eq_true (allK (f := fun K => decide (PySem.W.kitOne K (.ref (He.ga K "EndError")) (.ref (He.ga K "NoEvent")) = some false)) T.more 159)
theorem xe_InvalidGoal : PySem.W.excIn K (He.ga K "InvalidGoal") tlVE "ValueError.__new__" = true := (allK (f := fun K => PySem.W.excIn K (He.ga K "InvalidGoal") tlVE "ValueError.__new__") T.more 160)
theorem xp_InvalidGoal : PySem.W.keepIn K (.ref (He.ga K "InvalidGoal")) = true := (allK (f := fun K => PySem.W.keepIn K (.ref (He.ga K "InvalidGoal"))) T.more 161)
theorem xc_InvalidGoal : ExcC K (He.ga K "InvalidGoal") := excCB_ok (allK (f := fun K => excCB K (He.ga K "InvalidGoal")) T.more 162)
theorem xk_InvalidGoal_IndexError : PySem.W.kitOne K (.ref (He.ga K "InvalidGoal")) (.type "IndexError") = some false := of_decide_eq_true (allK (f := fun K => decide (PySem.W.kitOne K (.ref (He.ga K "InvalidGoal")) (.type "IndexError") = some false)) T.more 163)
theorem xk_InvalidGoal_ValueError : PySem.W.kitOne K (.ref (He.ga K "InvalidGoal")) (.type "ValueError") = some true := of_decide_eq_true (allK (f := fun K => decide (PySem.W.kitOne K (.ref (He.ga K "InvalidGoal")) (.type "ValueError") = some true)) T.more 164)
theorem xk_InvalidGoal_EndError : PySem.W.kitOne K (.ref (He.ga K "InvalidGoal")) (.ref (He.ga K "EndError")) = some true := of_decide_eq_true (allK (f := fun K => decide (PySem.W.kitOne K (.ref (He.ga K "InvalidGoal")) (.ref (He.ga K "EndError")) = some true)) T.more 165)
theorem xk_InvalidGoal_InvalidRow : PySem.W.kitOne K (.ref (He.ga K "InvalidGoal")) (.ref (He.ga K "InvalidRow")) = some false := of_decide_eq_true (allK (f := fun K => decide (PySem.W.kitOne K (.ref (He.ga K "InvalidGoal")) (.ref (He.ga K "InvalidRow")) = some false)) T.more 166)
theorem xk_InvalidGoal_InvalidStore : PySem.W.kitOne K (.ref (He.ga K "InvalidGoal")) (.ref (He.ga K "InvalidStore")) = some false := of_decide_eq_true (allK (f := fun K => decide (PySem.W.kitOne K (.ref (He.ga K "InvalidGoal")) (.ref (He.ga K "InvalidStore")) = some false)) T.more 167)
theorem xk_InvalidGoal_InvalidText : PySem.W.kitOne K (.ref (He.ga K "InvalidGoal")) (.ref (He.ga K "InvalidText")) = some false := of_decide_eq_true (allK (f := fun K => decide (PySem.W.kitOne K (.ref (He.ga K "InvalidGoal")) (.ref (He.ga K "InvalidText")) = some false)) T.more 168)
theorem xk_InvalidGoal_InvalidEvent : PySem.W.kitOne K (.ref (He.ga K "InvalidGoal")) (.ref (He.ga K "InvalidEvent")) = some false := of_decide_eq_true (allK (f := fun K => decide (PySem.W.kitOne K (.ref (He.ga K "InvalidGoal")) (.ref (He.ga K "InvalidEvent")) = some false)) T.more 169)
theorem xk_InvalidGoal_InvalidGoal : PySem.W.kitOne K (.ref (He.ga K "InvalidGoal")) (.ref (He.ga K "InvalidGoal")) = some true := of_decide_eq_true (allK (f := fun K => decide (PySem.W.kitOne K (.ref (He.ga K "InvalidGoal")) (.ref (He.ga K "InvalidGoal")) = some true)) T.more 170)
theorem xk_InvalidGoal_InvalidCommand : PySem.W.kitOne K (.ref (He.ga K "InvalidGoal")) (.ref (He.ga K "InvalidCommand")) = some false := of_decide_eq_true (allK (f := fun K => decide (PySem.W.kitOne K (.ref (He.ga K "InvalidGoal")) (.ref (He.ga K "InvalidCommand")) = some false)) T.more 171)
theorem xk_InvalidGoal_Refused : PySem.W.kitOne K (.ref (He.ga K "InvalidGoal")) (.ref (He.ga K "Refused")) = some false := of_decide_eq_true (allK (f := fun K => decide (PySem.W.kitOne K (.ref (He.ga K "InvalidGoal")) (.ref (He.ga K "Refused")) = some false)) T.more 172)
theorem xk_InvalidGoal_NoRow : PySem.W.kitOne K (.ref (He.ga K "InvalidGoal")) (.ref (He.ga K "NoRow")) = some false := of_decide_eq_true (allK (f := fun K => decide (PySem.W.kitOne K (.ref (He.ga K "InvalidGoal")) (.ref (He.ga K "NoRow")) = some false)) T.more 173)
theorem xk_InvalidGoal_NoDeed : PySem.W.kitOne K (.ref (He.ga K "InvalidGoal")) (.ref (He.ga K "NoDeed")) = some false := of_decide_eq_true (allK (f := fun K => decide (PySem.W.kitOne K (.ref (He.ga K "InvalidGoal")) (.ref (He.ga K "NoDeed")) = some false)) T.more 174)
theorem xk_InvalidGoal_NoEvent : PySem.W.kitOne K (.ref (He.ga K "InvalidGoal")) (.ref (He.ga K "NoEvent")) = some false := of_decide_eq_true (allK (f := fun K => decide (PySem.W.kitOne K (.ref (He.ga K "InvalidGoal")) (.ref (He.ga K "NoEvent")) = some false)) T.more 175)
theorem xe_InvalidCommand : PySem.W.excIn K (He.ga K "InvalidCommand") tlVE "ValueError.__new__" = true := (allK (f := fun K => PySem.W.excIn K (He.ga K "InvalidCommand") tlVE "ValueError.__new__") T.more 176)
theorem xp_InvalidCommand : PySem.W.keepIn K (.ref (He.ga K "InvalidCommand")) = true := (allK (f := fun K => PySem.W.keepIn K (.ref (He.ga K "InvalidCommand"))) T.more 177)
theorem xc_InvalidCommand : ExcC K (He.ga K "InvalidCommand") := excCB_ok (allK (f := fun K => excCB K (He.ga K "InvalidCommand")) T.more 178)
theorem xk_InvalidCommand_IndexError : PySem.W.kitOne K (.ref (He.ga K "InvalidCommand")) (.type "IndexError") = some false := of_decide_eq_true (allK (f := fun K => decide (PySem.W.kitOne K (.ref (He.ga K "InvalidCommand")) (.type "IndexError") = some false)) T.more 179)
theorem xk_InvalidCommand_ValueError : PySem.W.kitOne K (.ref (He.ga K "InvalidCommand")) (.type "ValueError") = some true := of_decide_eq_true (allK (f := fun K => decide (PySem.W.kitOne K (.ref (He.ga K "InvalidCommand")) (.type "ValueError") = some true)) T.more 180)
theorem xk_InvalidCommand_EndError : PySem.W.kitOne K (.ref (He.ga K "InvalidCommand")) (.ref (He.ga K "EndError")) = some true := of_decide_eq_true (allK (f := fun K => decide (PySem.W.kitOne K (.ref (He.ga K "InvalidCommand")) (.ref (He.ga K "EndError")) = some true)) T.more 181)
theorem xk_InvalidCommand_InvalidRow : PySem.W.kitOne K (.ref (He.ga K "InvalidCommand")) (.ref (He.ga K "InvalidRow")) = some false := of_decide_eq_true (allK (f := fun K => decide (PySem.W.kitOne K (.ref (He.ga K "InvalidCommand")) (.ref (He.ga K "InvalidRow")) = some false)) T.more 182)
theorem xk_InvalidCommand_InvalidStore : PySem.W.kitOne K (.ref (He.ga K "InvalidCommand")) (.ref (He.ga K "InvalidStore")) = some false := of_decide_eq_true (allK (f := fun K => decide (PySem.W.kitOne K (.ref (He.ga K "InvalidCommand")) (.ref (He.ga K "InvalidStore")) = some false)) T.more 183)
theorem xk_InvalidCommand_InvalidText : PySem.W.kitOne K (.ref (He.ga K "InvalidCommand")) (.ref (He.ga K "InvalidText")) = some false := of_decide_eq_true (allK (f := fun K => decide (PySem.W.kitOne K (.ref (He.ga K "InvalidCommand")) (.ref (He.ga K "InvalidText")) = some false)) T.more 184)
theorem xk_InvalidCommand_InvalidEvent : PySem.W.kitOne K (.ref (He.ga K "InvalidCommand")) (.ref (He.ga K "InvalidEvent")) = some false := of_decide_eq_true (allK (f := fun K => decide (PySem.W.kitOne K (.ref (He.ga K "InvalidCommand")) (.ref (He.ga K "InvalidEvent")) = some false)) T.more 185)
theorem xk_InvalidCommand_InvalidGoal : PySem.W.kitOne K (.ref (He.ga K "InvalidCommand")) (.ref (He.ga K "InvalidGoal")) = some false := of_decide_eq_true (allK (f := fun K => decide (PySem.W.kitOne K (.ref (He.ga K "InvalidCommand")) (.ref (He.ga K "InvalidGoal")) = some false)) T.more 186)
theorem xk_InvalidCommand_InvalidCommand : PySem.W.kitOne K (.ref (He.ga K "InvalidCommand")) (.ref (He.ga K "InvalidCommand")) = some true := of_decide_eq_true (allK (f := fun K => decide (PySem.W.kitOne K (.ref (He.ga K "InvalidCommand")) (.ref (He.ga K "InvalidCommand")) = some true)) T.more 187)
theorem xk_InvalidCommand_Refused : PySem.W.kitOne K (.ref (He.ga K "InvalidCommand")) (.ref (He.ga K "Refused")) = some false := of_decide_eq_true (allK (f := fun K => decide (PySem.W.kitOne K (.ref (He.ga K "InvalidCommand")) (.ref (He.ga K "Refused")) = some false)) T.more 188)
theorem xk_InvalidCommand_NoRow : PySem.W.kitOne K (.ref (He.ga K "InvalidCommand")) (.ref (He.ga K "NoRow")) = some false := of_decide_eq_true (allK (f := fun K => decide (PySem.W.kitOne K (.ref (He.ga K "InvalidCommand")) (.ref (He.ga K "NoRow")) = some false)) T.more 189)
theorem xk_InvalidCommand_NoDeed : PySem.W.kitOne K (.ref (He.ga K "InvalidCommand")) (.ref (He.ga K "NoDeed")) = some false := of_decide_eq_true (allK (f := fun K => decide (PySem.W.kitOne K (.ref (He.ga K "InvalidCommand")) (.ref (He.ga K "NoDeed")) = some false)) T.more 190)
theorem xk_InvalidCommand_NoEvent : PySem.W.kitOne K (.ref (He.ga K "InvalidCommand")) (.ref (He.ga K "NoEvent")) = some false := of_decide_eq_true (allK (f := fun K => decide (PySem.W.kitOne K (.ref (He.ga K "InvalidCommand")) (.ref (He.ga K "NoEvent")) = some false)) T.more 191)
theorem f_InvalidRow_init : ∃ fd, FunD K "__init__" "InvalidRow.__init__" (defArgs sInvalidRow_init) (defBody sInvalidRow_init) (defScope sInvalidRow_init) (dInvalidRow_init.dvs K) (dInvalidRow_init.kws K) (He.fAd K dInvalidRow_init.at_) fd := T.d 0 (d := dInvalidRow_init)
theorem f_InvalidStore_init : ∃ fd, FunD K "__init__" "InvalidStore.__init__" (defArgs sInvalidStore_init) (defBody sInvalidStore_init) (defScope sInvalidStore_init) (dInvalidStore_init.dvs K) (dInvalidStore_init.kws K) (He.fAd K dInvalidStore_init.at_) fd := T.d 1 (d := dInvalidStore_init)
theorem f_InvalidText_init : ∃ fd, FunD K "__init__" "InvalidText.__init__" (defArgs sInvalidText_init) (defBody sInvalidText_init) (defScope sInvalidText_init) (dInvalidText_init.dvs K) (dInvalidText_init.kws K) (He.fAd K dInvalidText_init.at_) fd := T.d 2 (d := dInvalidText_init)
theorem f_InvalidEvent_init : ∃ fd, FunD K "__init__" "InvalidEvent.__init__" (defArgs sInvalidEvent_init) (defBody sInvalidEvent_init) (defScope sInvalidEvent_init) (dInvalidEvent_init.dvs K) (dInvalidEvent_init.kws K) (He.fAd K dInvalidEvent_init.at_) fd := T.d 3 (d := dInvalidEvent_init)
theorem f_Refused_init : ∃ fd, FunD K "__init__" "Refused.__init__" (defArgs sRefused_init) (defBody sRefused_init) (defScope sRefused_init) (dRefused_init.dvs K) (dRefused_init.kws K) (He.fAd K dRefused_init.at_) fd := T.d 4 (d := dRefused_init)
theorem f_NoRow_init : ∃ fd, FunD K "__init__" "NoRow.__init__" (defArgs sNoRow_init) (defBody sNoRow_init) (defScope sNoRow_init) (dNoRow_init.dvs K) (dNoRow_init.kws K) (He.fAd K dNoRow_init.at_) fd := T.d 5 (d := dNoRow_init)
theorem f_NoDeed_init : ∃ fd, FunD K "__init__" "NoDeed.__init__" (defArgs sNoDeed_init) (defBody sNoDeed_init) (defScope sNoDeed_init) (dNoDeed_init.dvs K) (dNoDeed_init.kws K) (He.fAd K dNoDeed_init.at_) fd := T.d 6 (d := dNoDeed_init)
theorem f_NoEvent_init : ∃ fd, FunD K "__init__" "NoEvent.__init__" (defArgs sNoEvent_init) (defBody sNoEvent_init) (defScope sNoEvent_init) (dNoEvent_init.dvs K) (dNoEvent_init.kws K) (He.fAd K dNoEvent_init.at_) fd := T.d 7 (d := dNoEvent_init)
theorem f_deal : ∃ fd, FunD K "_law_deal" "_law_deal" (defArgs sdeal) (defBody sdeal) (defScope sdeal) (ddeal.dvs K) (ddeal.kws K) (He.fAd K ddeal.at_) fd := T.d 8 (d := ddeal)
theorem f_draw : ∃ fd, FunD K "_law_draw" "_law_draw" (defArgs sdraw) (defBody sdraw) (defScope sdraw) (ddraw.dvs K) (ddraw.kws K) (He.fAd K ddraw.at_) fd := T.d 9 (d := ddraw)
theorem f_pick : ∃ fd, FunD K "_law_pick" "_law_pick" (defArgs spick) (defBody spick) (defScope spick) (dpick.dvs K) (dpick.kws K) (He.fAd K dpick.at_) fd := T.d 10 (d := dpick)
theorem f_bases : ∃ fd, FunD K "_law_bases" "_law_bases" (defArgs sbases) (defBody sbases) (defScope sbases) (dbases.dvs K) (dbases.kws K) (He.fAd K dbases.at_) fd := T.d 11 (d := dbases)
theorem f_due : ∃ fd, FunD K "_law_due" "_law_due" (defArgs sdue) (defBody sdue) (defScope sdue) (ddue.dvs K) (ddue.kws K) (He.fAd K ddue.at_) fd := T.d 12 (d := ddue)
theorem f_made : ∃ fd, FunD K "_law_made" "_law_made" (defArgs smade) (defBody smade) (defScope smade) (dmade.dvs K) (dmade.kws K) (He.fAd K dmade.at_) fd := T.d 13 (d := dmade)
theorem f_law : ∃ fd, FunD K "law" "law" (defArgs slaw) (defBody slaw) (defScope slaw) (dlaw.dvs K) (dlaw.kws K) (He.fAd K dlaw.at_) fd := T.d 14 (d := dlaw)
end
abbrev N_InvalidRow_init : List Str := ["self", "word"]
theorem sc_InvalidRow_init : FnScope N_InvalidRow_init ["self", "word"] (defScope sInvalidRow_init) := ⟨rfl, rfl, rfl, by decide +kernel, rfl, by decide +kernel, by decide +kernel⟩
theorem v_InvalidRow_init_0 : Nm N_InvalidRow_init (defScope sInvalidRow_init) 0 "self" := ⟨rfl, by decide +kernel, by decide +kernel, by decide +kernel⟩
theorem v_InvalidRow_init_1 : Nm N_InvalidRow_init (defScope sInvalidRow_init) 1 "word" := ⟨rfl, by decide +kernel, by decide +kernel, by decide +kernel⟩
abbrev N_InvalidStore_init : List Str := ["self", "word"]
theorem sc_InvalidStore_init : FnScope N_InvalidStore_init ["self", "word"] (defScope sInvalidStore_init) := ⟨rfl, rfl, rfl, by decide +kernel, rfl, by decide +kernel, by decide +kernel⟩
theorem v_InvalidStore_init_0 : Nm N_InvalidStore_init (defScope sInvalidStore_init) 0 "self" := ⟨rfl, by decide +kernel, by decide +kernel, by decide +kernel⟩
theorem v_InvalidStore_init_1 : Nm N_InvalidStore_init (defScope sInvalidStore_init) 1 "word" := ⟨rfl, by decide +kernel, by decide +kernel, by decide +kernel⟩
abbrev N_InvalidText_init : List Str := ["self", "at"]
theorem sc_InvalidText_init : FnScope N_InvalidText_init ["self", "at"] (defScope sInvalidText_init) := ⟨rfl, rfl, rfl, by decide +kernel, rfl, by decide +kernel, by decide +kernel⟩
theorem v_InvalidText_init_0 : Nm N_InvalidText_init (defScope sInvalidText_init) 0 "self" := ⟨rfl, by decide +kernel, by decide +kernel, by decide +kernel⟩
theorem v_InvalidText_init_1 : Nm N_InvalidText_init (defScope sInvalidText_init) 1 "at" := ⟨rfl, by decide +kernel, by decide +kernel, by decide +kernel⟩
abbrev N_InvalidEvent_init : List Str := ["self", "at"]
theorem sc_InvalidEvent_init : FnScope N_InvalidEvent_init ["self", "at"] (defScope sInvalidEvent_init) := ⟨rfl, rfl, rfl, by decide +kernel, rfl, by decide +kernel, by decide +kernel⟩
theorem v_InvalidEvent_init_0 : Nm N_InvalidEvent_init (defScope sInvalidEvent_init) 0 "self" := ⟨rfl, by decide +kernel, by decide +kernel, by decide +kernel⟩
theorem v_InvalidEvent_init_1 : Nm N_InvalidEvent_init (defScope sInvalidEvent_init) 1 "at" := ⟨rfl, by decide +kernel, by decide +kernel, by decide +kernel⟩
abbrev N_Refused_init : List Str := ["self", "at"]
theorem sc_Refused_init : FnScope N_Refused_init ["self", "at"] (defScope sRefused_init) := ⟨rfl, rfl, rfl, by decide +kernel, rfl, by decide +kernel, by decide +kernel⟩
theorem v_Refused_init_0 : Nm N_Refused_init (defScope sRefused_init) 0 "self" := ⟨rfl, by decide +kernel, by decide +kernel, by decide +kernel⟩
theorem v_Refused_init_1 : Nm N_Refused_init (defScope sRefused_init) 1 "at" := ⟨rfl, by decide +kernel, by decide +kernel, by decide +kernel⟩
abbrev N_NoRow_init : List Str := ["self", "at"]
theorem sc_NoRow_init : FnScope N_NoRow_init ["self", "at"] (defScope sNoRow_init) := ⟨rfl, rfl, rfl, by decide +kernel, rfl, by decide +kernel, by decide +kernel⟩
theorem v_NoRow_init_0 : Nm N_NoRow_init (defScope sNoRow_init) 0 "self" := ⟨rfl, by decide +kernel, by decide +kernel, by decide +kernel⟩
theorem v_NoRow_init_1 : Nm N_NoRow_init (defScope sNoRow_init) 1 "at" := ⟨rfl, by decide +kernel, by decide +kernel, by decide +kernel⟩
abbrev N_NoDeed_init : List Str := ["self", "at"]
theorem sc_NoDeed_init : FnScope N_NoDeed_init ["self", "at"] (defScope sNoDeed_init) := ⟨rfl, rfl, rfl, by decide +kernel, rfl, by decide +kernel, by decide +kernel⟩
theorem v_NoDeed_init_0 : Nm N_NoDeed_init (defScope sNoDeed_init) 0 "self" := ⟨rfl, by decide +kernel, by decide +kernel, by decide +kernel⟩
theorem v_NoDeed_init_1 : Nm N_NoDeed_init (defScope sNoDeed_init) 1 "at" := ⟨rfl, by decide +kernel, by decide +kernel, by decide +kernel⟩
abbrev N_NoEvent_init : List Str := ["self", "at"]
theorem sc_NoEvent_init : FnScope N_NoEvent_init ["self", "at"] (defScope sNoEvent_init) := ⟨rfl, rfl, rfl, by decide +kernel, rfl, by decide +kernel, by decide +kernel⟩
theorem v_NoEvent_init_0 : Nm N_NoEvent_init (defScope sNoEvent_init) 0 "self" := ⟨rfl, by decide +kernel, by decide +kernel, by decide +kernel⟩
theorem v_NoEvent_init_1 : Nm N_NoEvent_init (defScope sNoEvent_init) 1 "at" := ⟨rfl, by decide +kernel, by decide +kernel, by decide +kernel⟩
def loose0 : List Str := ["__name__", "EndError", "InvalidRow", "InvalidStore", "InvalidText", "InvalidEvent", "InvalidGoal", "InvalidCommand", "Refused", "NoRow", "NoDeed", "NoEvent", "_law_deal", "_law_draw", "_law_pick"]
def loose1 : List Str := ["_law_bases", "_law_due", "_law_made"]
abbrev loose : List Str := loose0 ++ (loose1)
def as0 : List Addr := [3, 6, 4, 24, 44, 63, 82, 101, 113, 125, 144, 163, 183, 203, 211, 218, 225, 232, 237, 242, 247, 0, 23, 43, 62, 81, 100, 112, 124, 143, 162, 182, 202, 210, 217, 224, 231, 236, 241, 246]
def as1 : List Addr := [22, 25, 41, 42, 60, 61, 79, 80, 98, 99, 111, 123, 141, 142, 160, 161, 164, 180, 181, 184, 200, 201, 204, 207, 208, 209, 212, 213, 214, 215, 216, 219, 220, 221, 222, 223, 226, 227, 228, 229]
def as2 : List Addr := [230, 233, 234, 235, 238, 239, 240, 243, 244, 245, 40, 59, 78, 97, 140, 159, 179, 199, 35, 36, 37, 38, 39, 54, 55, 56, 57, 58, 73, 74, 75, 76, 77, 92, 93, 94, 95, 96, 135, 136]
def as3 : List Addr := [137, 138, 139, 154, 155, 156, 157, 158, 174, 175, 176, 177, 178, 194, 195, 196, 197, 198, 2]
def as : List Addr := as0 ++ (as1 ++ (as2 ++ (as3)))
abbrev R : PySem.W.OpenRow := PySem.W.OpenLaw.row PySem.Challenge.rw_joinsback_k01_errors_and_what_they_keep
abbrev hk : PySem.W.Hook := hookL as fa fn fx ts ex
def ob (s : PySem.W.SharedT) : AlP := obsL as fa fn fx ts ex (HandSHeadRun.getT s)
theorem ob_eq (s : PySem.W.SharedT) : ob s = hk.obs s.abs := obsL_eq (HandSHeadRun.getT_eq s)
set_option maxHeartbeats 0 in
theorem runF (w : World) : HandSHeadRun.RunEq R (PySem.W.view R.prog [19]) hk ob 100000 loose (w.withFollow "special-get-raises" false) := by
  intro os; kernel_rfl
set_option maxHeartbeats 0 in
theorem runT (w : World) : HandSHeadRun.RunEq R (PySem.W.view R.prog [19]) hk ob 100000 loose (w.withFollow "special-get-raises" true) := by
  intro os; kernel_rfl
theorem run (w : World) : HandSHeadRun.RunEq R (PySem.W.view R.prog [19]) hk ob 100000 loose w :=
  PySem.W.byRow2 "special-get-raises" (P := fun w => HandSHeadRun.RunEq R (PySem.W.view R.prog [19]) hk ob 100000 loose w) runF runT w
def FactsC : Prop := ∀ (P : Program) (w : World) (K : PySem.W.Frag) (h : Heap) (mg : Str → Option Value) (f : Addr) (X : K.In h) (G : h.Ns mainGlobals mg) (hfa : mg ("law" : Str) = some (.ref f)) (c : sayP fa fn fx ts ex K = valP fn fx ts w),
    ∃ fd : FuncData, (∀ (s : Shared) (v : Value), BindsTo s fd ⟨[v], []⟩ [("_law_script", v)]) ∧ ∀ base : Heap, K.In base → base.Ns mainGlobals mg → FnD false P w K mg base 10 f fd ["_law_script"] spLaw
end LW
section
open PySem PySem.W PySem.Calls PyProof.Rows
set_option maxHeartbeats 0 in
theorem LW.fin (FC : LW.FactsC) : PySem.Challenge.rw_joinsback_k01_errors_and_what_they_keep.Holds := by
  w_on; o_law
  refine HandSHeadRun.head_any (r := OpenLaw.row PySem.Challenge.rw_joinsback_k01_errors_and_what_they_keep) (q := view (OpenLaw.row PySem.Challenge.rw_joinsback_k01_errors_and_what_they_keep).prog [19]) (H := LW.hk) (ob := LW.ob) (M := 100000) (loose := LW.loose) (d := HandSHeadRun.topDef (OpenLaw.row PySem.Challenge.rw_joinsback_k01_errors_and_what_they_keep).prog 19) (kwd := []) LW.ob_eq
    (by kernel_rfl) (fun s => by kernel_rfl) LW.run (by kernel_rfl) (by kernel_rfl) (by kernel_rfl) (by rfl) (by first | assumption | decide +kernel) (by decide +kernel) ⟨rfl, rfl, rfl, rfl, rfl, by decide +kernel⟩ ?hw ?hc
  case hw => w_witness2
  case hc =>
    refine PD.walk_pd (l := PySem.Challenge.rw_joinsback_k01_errors_and_what_they_keep) (n := 63) (k := 10) (x := "_law_script") rfl (by kernel_rfl) ⟨rfl, by decide, by decide⟩ ?F
    intro w mg fa h Y G hmg0
    obtain ⟨K, KX, c⟩ := Y
    have hmg : mg ("law" : PySem.Str) = some (.ref fa) := by
      have e : (HandSHeadRun.topDef (OpenLaw.row PySem.Challenge.rw_joinsback_k01_errors_and_what_they_keep).prog 19).name = ("law" : PySem.Str) := by kernel_rfl
      rw [← e]
      exact hmg0
    obtain ⟨fd, hb, hF⟩ := FC (PySem.Challenge.rw_joinsback_k01_errors_and_what_they_keep).prog w K h mg fa KX G hmg c
    exact ⟨K, fd, KX, hb, hF⟩
end
namespace LW
open PySem PySem.Spec PyProof.Rows L2 PD
local macro_rules | `(tactic| walk_at "pd.listL") => `(tactic| refine cld_list_lst ?_)
local macro_rules | `(tactic| walk_at "pd.listT") => `(tactic| refine cld_list_tup ?_)
local macro_rules | `(tactic| walk_at "pd.lst") => `(tactic| refine ed_lst ?_)
/-! the stepping tactic: by the head of the syntax -/
local macro_rules | `(tactic| walk_at "pd.side") => `(tactic| first | assumption | rfl | decide | omega)
local macro_rules | `(tactic| walk_at "pd.mem") => `(tactic| first | exact List.mem_cons_self | (refine List.mem_cons_of_mem _ ?_; walk_at "pd.mem") | assumption)
local macro_rules | `(tactic| walk_at "pd.ed") => `(tactic| first
  | ((with_reducible show ed _ (Expr.Name _ _) _ _ _); walk_at "pd.nm")
  | ((with_reducible show ed _ (Expr.Constant (Const.int _) _ _) _ _ _); refine ed_int ?_)
  | ((with_reducible show ed _ (Expr.Call _ _ _ _) _ _ _); walk_at "pd.call")
  | ((with_reducible show ed _ (Expr.Constant (Const.str _) _ _) _ _ _); refine ed_str ?_)
  | ((with_reducible show ed _ (Expr.Attribute _ _ _) _ _ _); walk_at "pd.fld")
  | ((with_reducible show ed _ (Expr.Subscript _ (Expr.Slice _ _ none _) _) _ _ _); refine ed_slc ?_)
  | ((with_reducible show ed _ (Expr.Subscript _ (Expr.Slice none none (some _) _) _) _ _ _); refine ed_rev ?_)
  | ((with_reducible show ed _ (Expr.Subscript _ _ _) _ _ _); refine ed_ix ?_)
  | ((with_reducible show ed _ (Expr.BinOp _ _ _ _) _ _ _); refine ed_bin ?_)
  | ((with_reducible show ed _ (Expr.Compare _ [_] _ _) _ _ _); refine ed_cmp (by with_unfolding_all rfl) ?_)
  | ((with_reducible show ed _ (Expr.List _ _) _ _ _); walk_at "pd.lst")
  | ((with_reducible show ed _ (Expr.Tuple _ _ _) _ _ _); refine ed_tup ?_)
  | ((with_reducible show ed _ (Expr.ListComp _ _ _ _) _ _ _); walk_at "pd.lc")
  | ((with_reducible show ed _ (Expr.DictComp _ _ _ _ _) _ _ _); walk_at "pd.dc")
  | ((with_reducible show ed _ (Expr.BoolOp _ [_] _) _ _ _); refine ed_one ?_)
  | ((with_reducible show ed _ (Expr.BoolOp BoolOp.And _ _) _ _ _); refine ed_and ?_)
  | ((with_reducible show ed _ (Expr.BoolOp BoolOp.Or _ _) _ _ _); refine ed_or ?_)
  | ((with_reducible show ed _ (Expr.IfExp _ _ _ _) _ _ _); refine ed_if ?_)
  | ((with_reducible show ed _ (Expr.UnaryOp UnaryOp.Not _ _) _ _ _); refine ed_not ?_)
  | ((with_reducible show ed _ (Expr.UnaryOp _ _ _) _ _ _); refine ed_un ?_)
  | ((with_reducible show ed _ (Expr.Constant (Const.bool _) _ _) _ _ _); refine ed_bl ?_)
  | ((with_reducible show ed _ (Expr.Constant Const.none _ _) _ _ _); refine ed_non ?_)
  | ((with_reducible show ed _ (Expr.Compare _ [_, _] _ _) _ _ _); refine ed_chain ?_)
  | fail)
local macro_rules | `(tactic| walk_at "pd.et") => `(tactic| first
  | ((with_reducible show et _ (Expr.Compare _ [_] _ _) _ _ _); refine et_cmp (by with_unfolding_all rfl) ?_)
  | ((with_reducible show et _ (Expr.Compare _ [_, _] _ _) _ _ _); refine et_chain ?_)
  | ((with_reducible show et _ (Expr.BoolOp _ _ _) _ _ _); refine et_ew ?_)
  | ((with_reducible show et _ (Expr.UnaryOp UnaryOp.Not _ _) _ _ _); refine et_not ?_)
  | refine et_val ?_
  | fail)
local macro_rules | `(tactic| walk_at "pd.ew") => `(tactic| first
  | ((with_reducible show ew _ (Expr.BoolOp BoolOp.And [_] _) _ _ _); refine ew_and1 ?_)
  | ((with_reducible show ew _ (Expr.BoolOp BoolOp.And _ _) _ _ _); refine ew_and ?_)
  | ((with_reducible show ew _ (Expr.BoolOp BoolOp.Or [_] _) _ _ _); refine ew_or1 ?_)
  | ((with_reducible show ew _ (Expr.BoolOp BoolOp.Or _ _) _ _ _); refine ew_or ?_)
  | fail)
local macro_rules | `(tactic| walk_at "pd.opd") => `(tactic| first
  | ((with_reducible show opd _ (compareOp CmpOp.Eq) (D.str _) (D.str _) _ _ _); refine opd_eqS ?_)
  | ((with_reducible show opd _ (compareOp CmpOp.Eq) (D.int _) (D.int _) _ _ _); refine opd_eqI ?_)
  | ((with_reducible show opd _ (binaryOp Operator.Add) (D.int _) (D.int _) _ _ _); refine opd_add ?_)
  | ((with_reducible show opd _ (compareOp CmpOp.Lt) (D.int _) (D.int _) _ _ _); refine opd_lt ?_)
  | ((with_reducible show opd _ (compareOp CmpOp.Is) (D.bl _) (D.bl _) _ _ _); refine opd_isB ?_)
  | ((with_reducible show opd _ (compareOp CmpOp.In) (D.str _) (D.str _) _ _ _); refine opd_inSign ?_)
  | ((with_reducible show opd _ (compareOp CmpOp.In) (D.str _) (D.tup (List.map D.str _)) _ _ _); refine opd_inS _ (.tup _) rfl ?_)
  | ((with_reducible show opd _ (compareOp CmpOp.In) (D.str _) (D.lst (List.map D.str _)) _ _ _); refine opd_inS _ (.lst _) rfl ?_)
  | ((with_reducible show opd _ (compareOp CmpOp.NotIn) (D.str _) (D.tup (List.map D.str _)) _ _ _); refine opd_notInS _ (.tup _) rfl ?_)
  | ((with_reducible show opd _ (compareOp CmpOp.NotIn) (D.str _) (D.lst (List.map D.str _)) _ _ _); refine opd_notInS _ (.lst _) rfl ?_)
  | ((with_reducible show opd _ (compareOp CmpOp.In) (D.int _) (D.lst (List.map D.int _)) _ _ _); refine opd_inI _ (.lst _) rfl ?_)
  | ((with_reducible show opd _ (compareOp CmpOp.NotIn) (D.int _) (D.lst (List.map D.int _)) _ _ _); refine opd_notInI _ (.lst _) rfl ?_)
  | ((with_reducible show opd _ (compareOp CmpOp.In) (D.int _) (D.tup (List.map D.int _)) _ _ _); refine opd_inI _ (.tup _) rfl ?_)
  | ((with_reducible show opd _ (compareOp CmpOp.NotIn) (D.int _) (D.tup (List.map D.int _)) _ _ _); refine opd_notInI _ (.tup _) rfl ?_)
  | ((with_reducible show opd _ (binaryOp Operator.Add) (D.lst _) (D.lst _) _ _ _); refine opd_cat ?_ ?_; focus (first | decide | (simp [small_le]; done) | (refine small_le ?_; simp only [List.length_append, List.length_cons, List.length_nil, List.length_map, List.length_take, List.length_drop]; omega) | fail))
  | ((with_reducible show opd _ (binaryOp Operator.Add) (D.tup _) (D.tup _) _ _ _); refine opd_catT ?_ ?_; focus (first | decide | (simp [small_le]; done) | (refine small_le ?_; simp only [List.length_append, List.length_cons, List.length_nil, List.length_map, List.length_take, List.length_drop]; omega) | fail))
  | ((with_reducible show opd _ (binaryOp Operator.Add) (D.str _) (D.str _) _ _ _); refine opd_addS (by first | assumption | decide) ?_)
  | ((with_reducible show opd _ (compareOp CmpOp.Gt) (D.int _) (D.int _) _ _ _); refine opd_gt ?_)
  | ((with_reducible show opd _ (compareOp CmpOp.LtE) (D.int _) (D.int _) _ _ _); refine opd_le ?_)
  | ((with_reducible show opd _ (compareOp CmpOp.GtE) (D.int _) (D.int _) _ _ _); refine opd_ge ?_)
  | ((with_reducible show opd _ (compareOp CmpOp.NotEq) (D.int _) (D.int _) _ _ _); refine opd_neI ?_)
  | ((with_reducible show opd _ (compareOp CmpOp.NotEq) (D.str _) (D.str _) _ _ _); refine opd_neS ?_)
  | ((with_reducible show opd _ (compareOp CmpOp.Is) _ D.non _ _ _); refine opd_isN ?_)
  | ((with_reducible show opd _ (compareOp CmpOp.IsNot) _ D.non _ _ _); refine opd_notN ?_)
  | ((with_reducible show opd _ (binaryOp Operator.Sub) (D.int _) (D.int _) _ _ _); refine opd_sub ?_)
  | ((with_reducible show opd _ (binaryOp Operator.Mult) (D.int _) (D.int _) _ _ _); refine opd_mul (by first | (refine Or.inr ⟨?_, ?_⟩ <;> decide) | (refine Or.inl ⟨?_, ?_⟩ <;> decide) | (refine Or.inl ⟨?_, ?_⟩ <;> omega) | (refine Or.inr ⟨?_, ?_⟩ <;> omega)) ?_)
  | ((with_reducible show opd _ (binaryOp Operator.Mod) (D.int _) (D.int _) _ _ _); refine opd_mod (by walk_at "pd.side") ?_)
  | ((with_reducible show opd _ (binaryOp Operator.FloorDiv) (D.int _) (D.int _) _ _ _); refine opd_fdiv (by constructor <;> walk_at "pd.side") ?_)
  | ((with_reducible show opd _ (binaryOp Operator.Pow) (D.int _) (D.int _) _ _ _); refine opd_pow (by refine ⟨?_, ?_, ?_⟩ <;> decide) ?_)
  | fail)
local macro_rules | `(tactic| walk_at "pd.ty") => `(tactic| first | exact .str _ | exact .bl _ | exact .int _ | exact .non | exact .lst _ | exact .tup _ | exact .rl _ | exact .own (by walk_at "pd.mem") | assumption)
local macro_rules | `(tactic| walk_at "pd.isi") => `(tactic| first
  | ((with_reducible show cld _ _ [D.str _, D.ty "str"] _ _ _); refine cld_isi (.str _) rfl (kit_ty kb_str_str) ?_)
  | ((with_reducible show cld _ _ [D.str _, D.ty "int"] _ _ _); refine cld_isi (.str _) rfl (kit_ty kb_str_int) ?_)
  | ((with_reducible show cld _ _ [D.str _, D.ty "bool"] _ _ _); refine cld_isi (.str _) rfl (kit_ty kb_str_bool) ?_)
  | ((with_reducible show cld _ _ [D.str _, D.ty "list"] _ _ _); refine cld_isi (.str _) rfl (kit_ty kb_str_list) ?_)
  | ((with_reducible show cld _ _ [D.str _, D.ty "tuple"] _ _ _); refine cld_isi (.str _) rfl (kit_ty kb_str_tuple) ?_)
  | ((with_reducible show cld _ _ [D.bl _, D.ty "str"] _ _ _); refine cld_isi (.bl _) rfl (kit_ty kb_bool_str) ?_)
  | ((with_reducible show cld _ _ [D.bl _, D.ty "int"] _ _ _); refine cld_isi (.bl _) rfl (kit_ty kb_bool_int) ?_)
  | ((with_reducible show cld _ _ [D.bl _, D.ty "bool"] _ _ _); refine cld_isi (.bl _) rfl (kit_ty kb_bool_bool) ?_)
  | ((with_reducible show cld _ _ [D.bl _, D.ty "list"] _ _ _); refine cld_isi (.bl _) rfl (kit_ty kb_bool_list) ?_)
  | ((with_reducible show cld _ _ [D.bl _, D.ty "tuple"] _ _ _); refine cld_isi (.bl _) rfl (kit_ty kb_bool_tuple) ?_)
  | ((with_reducible show cld _ _ [D.int _, D.ty "str"] _ _ _); refine cld_isi (.int _) rfl (kit_ty kb_int_str) ?_)
  | ((with_reducible show cld _ _ [D.int _, D.ty "int"] _ _ _); refine cld_isi (.int _) rfl (kit_ty kb_int_int) ?_)
  | ((with_reducible show cld _ _ [D.int _, D.ty "bool"] _ _ _); refine cld_isi (.int _) rfl (kit_ty kb_int_bool) ?_)
  | ((with_reducible show cld _ _ [D.int _, D.ty "list"] _ _ _); refine cld_isi (.int _) rfl (kit_ty kb_int_list) ?_)
  | ((with_reducible show cld _ _ [D.int _, D.ty "tuple"] _ _ _); refine cld_isi (.int _) rfl (kit_ty kb_int_tuple) ?_)
  | ((with_reducible show cld _ _ [D.non, D.ty "str"] _ _ _); refine cld_isi (.non) rfl (kit_ty kb_NoneType_str) ?_)
  | ((with_reducible show cld _ _ [D.non, D.ty "int"] _ _ _); refine cld_isi (.non) rfl (kit_ty kb_NoneType_int) ?_)
  | ((with_reducible show cld _ _ [D.non, D.ty "bool"] _ _ _); refine cld_isi (.non) rfl (kit_ty kb_NoneType_bool) ?_)
  | ((with_reducible show cld _ _ [D.non, D.ty "list"] _ _ _); refine cld_isi (.non) rfl (kit_ty kb_NoneType_list) ?_)
  | ((with_reducible show cld _ _ [D.non, D.ty "tuple"] _ _ _); refine cld_isi (.non) rfl (kit_ty kb_NoneType_tuple) ?_)
  | ((with_reducible show cld _ _ [D.lst _, D.ty "str"] _ _ _); refine cld_isi (.lst _) rfl (kit_ty kb_list_str) ?_)
  | ((with_reducible show cld _ _ [D.lst _, D.ty "int"] _ _ _); refine cld_isi (.lst _) rfl (kit_ty kb_list_int) ?_)
  | ((with_reducible show cld _ _ [D.lst _, D.ty "bool"] _ _ _); refine cld_isi (.lst _) rfl (kit_ty kb_list_bool) ?_)
  | ((with_reducible show cld _ _ [D.lst _, D.ty "list"] _ _ _); refine cld_isi (.lst _) rfl (kit_ty kb_list_list) ?_)
  | ((with_reducible show cld _ _ [D.lst _, D.ty "tuple"] _ _ _); refine cld_isi (.lst _) rfl (kit_ty kb_list_tuple) ?_)
  | ((with_reducible show cld _ _ [D.rl _, D.ty "str"] _ _ _); refine cld_isi (.rl _) rfl (kit_ty kb_list_str) ?_)
  | ((with_reducible show cld _ _ [D.rl _, D.ty "int"] _ _ _); refine cld_isi (.rl _) rfl (kit_ty kb_list_int) ?_)
  | ((with_reducible show cld _ _ [D.rl _, D.ty "bool"] _ _ _); refine cld_isi (.rl _) rfl (kit_ty kb_list_bool) ?_)
  | ((with_reducible show cld _ _ [D.rl _, D.ty "list"] _ _ _); refine cld_isi (.rl _) rfl (kit_ty kb_list_list) ?_)
  | ((with_reducible show cld _ _ [D.rl _, D.ty "tuple"] _ _ _); refine cld_isi (.rl _) rfl (kit_ty kb_list_tuple) ?_)
  | ((with_reducible show cld _ _ [D.tup _, D.ty "str"] _ _ _); refine cld_isi (.tup _) rfl (kit_ty kb_tuple_str) ?_)
  | ((with_reducible show cld _ _ [D.tup _, D.ty "int"] _ _ _); refine cld_isi (.tup _) rfl (kit_ty kb_tuple_int) ?_)
  | ((with_reducible show cld _ _ [D.tup _, D.ty "bool"] _ _ _); refine cld_isi (.tup _) rfl (kit_ty kb_tuple_bool) ?_)
  | ((with_reducible show cld _ _ [D.tup _, D.ty "list"] _ _ _); refine cld_isi (.tup _) rfl (kit_ty kb_tuple_list) ?_)
  | ((with_reducible show cld _ _ [D.tup _, D.ty "tuple"] _ _ _); refine cld_isi (.tup _) rfl (kit_ty kb_tuple_tuple) ?_)
  | fail)
local macro_rules | `(tactic| walk_at "pd.isiT") => `(tactic| first
  | ((with_reducible show cld _ _ [D.lst _, _] _ _ _); refine cld_isiSeq (.lst _) ?_)
  | ((with_reducible show cld _ _ [D.rl _, _] _ _ _); refine cld_isiSeq (.rl _) ?_)
  | ((with_reducible show cld _ _ [D.tup _, _] _ _ _); refine cld_isiSeq (.tup _) ?_)
  | ((with_reducible show cld _ _ [D.ref _, _] _ _ _); refine cld_isiSeq (.own (by walk_at "pd.mem")) ?_)
  | ((with_reducible show cld _ _ [D.str _, _] _ _ _); refine cld_isiNoSeq (.str _) ka_str ?_)
  | ((with_reducible show cld _ _ [D.int _, _] _ _ _); refine cld_isiNoSeq (.int _) ka_int ?_)
  | ((with_reducible show cld _ _ [D.bl _, _] _ _ _); refine cld_isiNoSeq (.bl _) ka_bool ?_)
  | ((with_reducible show cld _ _ [D.non, _] _ _ _); refine cld_isiNoSeq .non ka_NoneType ?_)
  | fail)
local macro_rules | `(tactic| walk_at "pd.cld") => `(tactic| first
  | ((with_reducible show cld _ (Value.builtin "len") [D.lst _] _ _ _); refine cld_len_lst ?_)
  | ((with_reducible show cld _ (Value.type "int") [D.int _] _ _ _); refine cld_int ?_)
  | ((with_reducible show cld _ (Value.type "str") [D.str _] _ _ _); refine cld_strS ?_)
  | ((with_reducible show cld _ (Value.type "tuple") [D.ref _] _ _ _); refine cld_tuple_own (by walk_at "pd.mem") ?_)
  | ((with_reducible show cld _ (Value.builtin "repr") [D.bl _] _ _ _); refine cld_repr_bl ?_)
  | ((with_reducible show cld _ (Value.builtin "all") [D.lst (List.map D.bl _)] _ _ _); refine cld_all rfl ?_)
  | ((with_reducible show cld _ (Value.builtin "any") [D.lst (List.map D.bl _)] _ _ _); refine cld_any rfl ?_)
  | ((with_reducible show cld _ (Value.builtin "len") [D.str _] _ _ _); refine cld_len_str (by walk_at "pd.side") ?_)
  | ((with_reducible show cld _ (Value.builtin "isinstance") [_, D.tup _] _ _ _); walk_at "pd.isiT")
  | ((with_reducible show cld _ (Value.builtin "isinstance") [_, _] _ _ _); walk_at "pd.isi")
  | ((with_reducible show cld _ (Value.builtin "len") [D.tup _] _ _ _); refine cld_len_tup ?_)
  | ((with_reducible show cld _ (Value.builtin "len") [D.ref _] _ _ _); first | refine cld_len_own (by walk_at "pd.mem") ?_ | refine cld_len_Y (Or.inl (by walk_at "pd.mem")) ?_)
  | ((with_reducible show cld _ (Value.builtin "len") [D.rl _] _ _ _); refine cld_len_rl ?_)
  | ((with_reducible show cld _ (Value.builtin "abs") [D.int _] _ _ _); refine cld_abs ?_)
  | ((with_reducible show cld _ (Value.type "tuple") [D.lst _] _ _ _); refine cld_tuple_lst ?_)
  | ((with_reducible show cld _ (Value.type "tuple") [D.tup _] _ _ _); refine cld_tuple_tup ?_)
  | ((with_reducible show cld _ (Value.type "list") [D.tup _] _ _ _); walk_at "pd.listT")
  | ((with_reducible show cld _ (Value.type "list") [D.lst _] _ _ _); walk_at "pd.listL")
  | fail)
local macro_rules | `(tactic| walk_at "pd.ixd") => `(tactic| first
  | ((with_reducible show ixd _ (D.ref _) (D.int _) _ _ _); refine ixd_own (by walk_at "pd.mem") (by rfl) ?_)
  | ((with_reducible show ixd _ (D.lst (_ :: _)) (D.int 0) _ _ _); refine ixd_lst atI_zero ?_)
  | ((with_reducible show ixd _ (D.tup (_ :: _)) (D.int 0) _ _ _); refine ixd_tup atI_zero ?_)
  | ((with_reducible show ixd _ (D.lst _) (D.int _) _ _ _); refine ixd_lst (by rfl) ?_)
  | ((with_reducible show ixd _ (D.tup _) (D.int _) _ _ _); refine ixd_tup (by rfl) ?_)
  | fail)
local macro_rules | `(tactic| walk_at "pd.sd") => `(tactic| first
  | ((with_reducible show sd _ (Stmt.Assign [Expr.Name _ _] _ _) _ _ _); walk_at "pd.set")
  | ((with_reducible show sd _ (Stmt.If _ _ _ _) _ _ _); refine sd_if ?_)
  | ((with_reducible show sd _ (Stmt.Return (some _) _) _ _ _); refine sd_ret ?_)
  | ((with_reducible show sd _ (Stmt.Expr (Expr.Constant _ _ _) _) _ _ _); refine sd_doc ?_)
  | ((with_reducible show sd _ (Stmt.Expr _ _) _ _ _); refine sd_expr ?_)
  | ((with_reducible show sd _ (Stmt.Assign [Expr.Attribute _ _ _] _ _) _ _ _); walk_at "pd.sfld")
  | ((with_reducible show sd _ (Stmt.Assign [Expr.Tuple [_, _] _ _] (Expr.Tuple [_, _] _ _) _) _ _ _); walk_at "pd.par")
  | ((with_reducible show sd _ (Stmt.Assign [Expr.Tuple [_, _, _] _ _] (Expr.Tuple [_, _, _] _ _) _) _ _ _); walk_at "pd.par")
  | ((with_reducible show sd _ (Stmt.Assign _ _ _) _ _ _); refine sd_asg ?_)
  | ((with_reducible show sd _ (Stmt.Return none _) _ _ _); refine sd_retN ?_)
  | ((with_reducible show sd _ (Stmt.Pass _) _ _ _); refine sd_pass ?_)
  | ((with_reducible show sd _ (Stmt.AugAssign (Expr.Name _ _) _ _ _) _ _ _); walk_at "pd.aug")
  | ((with_reducible show sd _ (Stmt.Raise _ _ _) _ _ _); walk_at "pd.raise")
  | ((with_reducible show sd _ (Stmt.Try _ _ _ _ _) _ _ _); walk_at "pd.try")
  | fail)
local macro_rules | `(tactic| walk_at "pd.gd") => `(tactic| first
  | walk_at "pd.g"
  | ((with_reducible show gd _ (Expr.Subscript _ _ _) _ _ _ _); refine gd_setL ?_)
  | ((with_reducible show gd _ (Expr.Tuple _ _ _) (D.tup _) _ _ _); refine gd_tup rfl ⟨rfl, ?_⟩)
  | ((with_reducible show gv _ (Expr.Tuple _ _ _) (D.tup _) _ _ _ _); refine gv_tup rfl ⟨rfl, ?_⟩)
  | fail)
local macro_rules | `(tactic| walk_at "pd.l") => `(tactic| first
  | (with_reducible refine exB ?_)
  | (with_reducible refine iteT ?_) | (with_reducible refine iteF ?_)
  | ((with_reducible show if List.isEmpty (_ :: _) = true then _ else _); refine iteFr rfl ?_)
  | ((with_reducible show if List.isEmpty [] = true then _ else _); refine iteTr rfl ?_)
  | ((with_reducible show if isBlD _ = true then _ else _); first | (refine iteTr (by rfl) ?_) | (refine iteFr (by rfl) ?_))
  | ((with_reducible show if (!isBlD _) = true then _ else _); first | (refine iteTr (by rfl) ?_) | (refine iteFr (by rfl) ?_))
  | ((with_reducible show if isStrD _ = true then _ else _); first | (refine iteTr (by rfl) ?_) | (refine iteFr (by rfl) ?_))
  | ((with_reducible show if (!isStrD _) = true then _ else _); first | (refine iteTr (by rfl) ?_) | (refine iteFr (by rfl) ?_))
  | ((with_reducible show List.length _ ≤ 1000 ∧ _); refine ⟨by first | decide | (simp; done), ?_⟩)
  | ((with_reducible show List.length _ = _ ∧ _); refine ⟨rfl, ?_⟩)
  | ((with_reducible show ∃ (x : D) (xs : List D), [_] = [x] ∧ SeqD _ x xs ∧ _); refine ⟨_, _, rfl, by first | exact .lst _ | exact .tup _ | exact .own (by walk_at "pd.mem") | assumption, ?_⟩)
  | ((with_reducible show ∃ (d d' : D), [_, _] = [d, d'] ∧ _); refine ⟨_, _, rfl, ?_⟩)
  | ((with_reducible show ∃ (d d' d'' : D), [_, _, _] = [d, d', d''] ∧ _); refine ⟨_, _, _, rfl, ?_⟩)
  | ((with_reducible show tyD "list" (D.ref _) _ ∧ _); refine ⟨Or.inl ⟨_, by walk_at "pd.mem", rfl⟩, ?_⟩)
  | ((with_reducible show tyD _ (D.str _) _ ∧ _); refine ⟨rfl, ?_⟩)
  | ((with_reducible show tyD _ (D.lst _) _ ∧ _); refine ⟨rfl, ?_⟩)
  | ((with_reducible show tyD "dict" (D.ref _) _ ∧ _); refine ⟨Or.inr (Or.inl ⟨_, _, by walk_at "pd.mem", rfl⟩), ?_⟩)
  | (with_reducible refine exI ?_)
  | ((with_reducible show ∃ (p : Addr) (dx : Addr) (ns : List Str) (ds : List D) (μa μb : Mu), _); refine ⟨_, _, _, _, [], _, rfl, rfl, of_decide_eq_true rfl, ?_⟩)
  | ((with_reducible show ∃ (d : D), FldD _ _ _ _ d ∧ _); first | refine ⟨_, ⟨rfl, rfl⟩, ?_⟩ | refine ⟨_, ⟨_, _, _, by walk_at "pd.mem", rfl⟩, ?_⟩)
  | ((with_reducible show if (!false) = true then _ else _); refine iteT ?_) | ((with_reducible show if (!true) = true then _ else _); refine iteF ?_)
  | ((with_reducible show if (!List.isEmpty []) = true then _ else _); refine iteF ?_) | ((with_reducible show if (!List.isEmpty (_ :: _)) = true then _ else _); refine iteT ?_)
  | fail)
local macro_rules | `(tactic| walk_at "pd1") => `(tactic| first
  | ((with_reducible show ed _ _ _ _ _); walk_at "pd.ed")
  | ((with_reducible show opd _ _ _ _ _ _ _); walk_at "pd.opd")
  | ((with_reducible show ea _ [] _ _ _); refine ea_nil ?_)
  | ((with_reducible show ea _ (Expr.Starred _ _ :: _) _ _ _); refine ea_star ?_)
  | ((with_reducible show ea _ (_ :: _) _ _ _); refine ea_cons ?_)
  | ((with_reducible show et _ _ _ _ _); walk_at "pd.et")
  | ((with_reducible show sds _ (_ :: _) _ _ _); refine sds_cons ?_)
  | ((with_reducible show sds _ [] _ _ _); refine sds_nil ?_)
  | ((with_reducible show sd _ _ _ _ _); walk_at "pd.sd")
  | walk_at "pd.l"
  | ((with_reducible show cld _ _ _ _ _ _); walk_at "pd.cld")
  | ((with_reducible show ew _ _ _ _ _); walk_at "pd.ew")
  | ((with_reducible show ixd _ _ _ _ _ _); walk_at "pd.ixd")
  | ((with_reducible show gd _ _ _ _ _ _); walk_at "pd.gd")
  | ((with_reducible show gv _ _ _ _ _ _ _); walk_at "pd.gd")
  | ((with_reducible show gds _ [] [] _ _ _); refine gds_nil ?_)
  | ((with_reducible show gds _ (_ :: _) (_ :: _) _ _ _); refine gds_cons ?_)
  | ((with_reducible show gvs _ [] [] _ _ _ _); refine gvs_nil ?_)
  | ((with_reducible show gvs _ (_ :: _) (_ :: _) _ _ _ _); refine gvs_cons ?_)
  | ((with_reducible show PD.allB _ _ _); intro _ _ _ _ _ _ _ _)
  | ((with_reducible show PD.allX _ _ _ _); intro _ _ _ _ _ _ _ _ _ _ _)
  | ((with_reducible show eif _ [] _ _ _); refine eif_nil ?_)
  | ((with_reducible show eif _ [_] _ _ _); refine eif_one ?_)
  | ((with_reducible show eif _ (_ :: _ :: _) _ _ _); refine eif_cons ?_)
  | ((with_reducible show eo _ none _ _ _); refine eo_none ?_)
  | ((with_reducible show eo _ (some _) _ _ _); refine eo_some ?_)
  | ((with_reducible show slc _ (D.lst _) _ _ _ _ _); refine slc_lst ?_)
  | ((with_reducible show slc _ (D.str _) _ _ _ _ _); refine slc_str (by walk_at "pd.side") ?_)
  | ((with_reducible show mtd _ "str.startswith" (D.str _) [D.str _] _ _ _); refine mtd_startswith ?_)
  | ((with_reducible show ∃ (xs : List D), SeqD _ (D.ref _) xs ∧ _); refine ⟨_, .own (by walk_at "pd.mem"), ?_⟩)
  | ((with_reducible show InsD _ _ _ _ ∧ _); refine ⟨⟨rfl, by decide⟩, ?_⟩)
  | ((with_reducible show ∃ (xs : List D), SeqD _ (D.lst _) xs ∧ _); refine ⟨_, .lst _, ?_⟩)
  | ((with_reducible show ∃ (xs : List D), SeqD _ (D.tup _) xs ∧ _); refine ⟨_, .tup _, ?_⟩)
  | ((with_reducible show slc _ (D.tup _) _ _ _ _ _); refine slc_tup ?_)
  | ((with_reducible show slc _ (D.rl _) _ _ _ _ _); refine slc_rl ?_)
  | ((with_reducible show eid _ _ _ _ _ _); walk_at "pd.it")
  | ((with_reducible show itd _ _ (D.str _) _ _ _); refine itd_str ?_)
  | ((with_reducible show itd _ _ (D.lst _) _ _ _); refine itd_lst ?_)
  | ((with_reducible show itd _ _ (D.tup _) _ _ _); refine itd_tup ?_)
  | ((with_reducible show itd _ _ (D.rl _) _ _ _); refine itd_rl ?_)
  | ((with_reducible show und _ (unaryOp UnaryOp.USub) (D.int _) _ _ _); refine und_neg ?_)
  | fail)
/-- the steps one after another -/
local macro_rules | `(tactic| walk_at "pd") => `(tactic| repeat' walk_at "pd1")
/-- the steps up to the next statement -/
local macro_rules | `(tactic| walk_at "pdS1") => `(tactic| (fail_if_success (with_reducible show sds _ (_ :: _) _ _ _)); walk_at "pd1")
local macro_rules | `(tactic| walk_at "pdS") => `(tactic| repeat' walk_at "pdS1")
/-- the steps up to the next list display -/
local macro_rules | `(tactic| walk_at "pdL1") => `(tactic| (fail_if_success (with_reducible show ed _ (Expr.List _ _) _ _ _)); walk_at "pd1")
local macro_rules | `(tactic| walk_at "pdL") => `(tactic| repeat' walk_at "pdL1")
/-- the steps up to a field's owner -/
local macro_rules | `(tactic| walk_at "pdF1") => `(tactic| (fail_if_success (with_reducible show ∃ (d : D), FldD _ _ _ _ d ∧ _)); walk_at "pd1")
local macro_rules | `(tactic| walk_at "pdF") => `(tactic| repeat' walk_at "pdF1")
local macro_rules | `(tactic| walk_at "pd.fldX") => `(tactic| first | refine ⟨_, ⟨by (with_reducible refine ga_same ?_); rfl, by rfl⟩, ?_⟩ | refine ⟨_, ⟨_, _, _, by walk_at "pd.mem", rfl⟩, ?_⟩)
/-- the steps up to the next subscript -/
local macro_rules | `(tactic| walk_at "pdX1") => `(tactic| (fail_if_success (with_reducible show ed _ (Expr.Subscript _ _ _) _ _ _)); walk_at "pd1")
local macro_rules | `(tactic| walk_at "pdX") => `(tactic| repeat' walk_at "pdX1")
/-! ### the source of draws -/
/-- the deal: two owned lists -/
@[reducible] def dealM (p q : Addr) (l : List Int) (m : Int) : Mu := [(p, .lst [.ref q, .int m]), (q, .lst (l.map .int))]
structure DealOk (l : List Int) (m : Int) : Prop where
  m0 : 0 ≤ m
  m1 : m < 2147483647
  l0 : ∀ z ∈ l, 0 ≤ z
  ll : l.length ≤ 100
/-- the cells with the deal ahead -/
def Deal (p q : Addr) (μr μ : Mu) : Prop := ∃ l m, DealOk l m ∧ μ = dealM p q l m ++ μr
section
variable {P : Program} {w : World} {K : PySem.W.Frag} {mg : Str → Option Value} {base : Heap}
def spDraw : SpD := fun ds μ Q _ => ∃ p q μr n, ds = [.ref p, .int n] ∧ Deal p q μr μ ∧ 0 < n ∧ n < 1000000 ∧ ∀ r μ', 0 ≤ r → r < n → Deal p q μr μ' → Q (.int r) μ'
section
abbrev N_draw : List Str := ["_law_deal_here", "_law_many", "_law_left"]
theorem sc_draw : FnScope N_draw ["_law_deal_here", "_law_many"] (defScope sdraw) := ⟨rfl, rfl, rfl, by decide +kernel, rfl, by decide +kernel, by decide +kernel⟩
theorem v_draw_deal_here : Nm N_draw (defScope sdraw) 0 "_law_deal_here" := ⟨rfl, by decide +kernel, by decide +kernel, by decide +kernel⟩
theorem v_draw_many : Nm N_draw (defScope sdraw) 1 "_law_many" := ⟨rfl, by decide +kernel, by decide +kernel, by decide +kernel⟩
theorem v_draw_left : Nm N_draw (defScope sdraw) 2 "_law_left" := ⟨rfl, by decide +kernel, by decide +kernel, by decide +kernel⟩
theorem gl_draw_int : (defScope sdraw).names.lookup ("int" : Str) = some .globalImplicit := by decide +kernel
local macro_rules | `(tactic| walk_at "pd.nm") => `(tactic| first
  | ((with_reducible show ed _ (Expr.Name "_law_deal_here" _) _ _ _); first | refine ed_nm v_draw_deal_here rfl ?_ | refine ed_nmB (sc := defScope sdraw) v_draw_deal_here rfl ?_)
  | ((with_reducible show ed _ (Expr.Name "_law_many" _) _ _ _); first | refine ed_nm v_draw_many rfl ?_ | refine ed_nmB (sc := defScope sdraw) v_draw_many rfl ?_)
  | ((with_reducible show ed _ (Expr.Name "_law_left" _) _ _ _); first | refine ed_nm v_draw_left rfl ?_ | refine ed_nmB (sc := defScope sdraw) v_draw_left rfl ?_)
  | ((with_reducible show ed _ (Expr.Name "int" _) _ _ _); refine ed_ty (n := "int") (b_int (by assumption)) bb_int ?_ (hg := by first | exact gl_of gl_draw_int))
  | fail)
local macro_rules | `(tactic| walk_at "pd.set") => `(tactic| first
  | ((with_reducible show sd _ (Stmt.Assign [Expr.Name "_law_left" _] _ _) _ _ _); refine sd_nm v_draw_left sc_draw.nd ?_)
  | fail)
local macro_rules | `(tactic| walk_at "pd.g") => `(tactic| first
  | ((with_reducible show gd _ (Expr.Name "_law_left" _) _ _ _ _); refine gd_nm v_draw_left sc_draw.nd ?_)
  | fail)
local macro_rules | `(tactic| walk_at "pd.call") => `(tactic| first
  | ((with_reducible show ed _ (Expr.Call (Expr.Attribute _ "pop" _) [] _ _) _ _ _); with_reducible refine ed_bm0 PySem.F.plainAttrs_list PySem.F.slot_list_pop PySem.F.type_list_pop ?_)
  | ((with_reducible show ed _ (Expr.Call (Expr.Attribute _ "append" _) (_ :: _) _ _) _ _ _); with_reducible refine ed_bm PySem.F.plainAttrs_list PySem.F.slot_list_append PySem.F.type_list_append ?_)
  | ((with_reducible show ed _ (Expr.Call (Expr.Name "int" _) (_ :: _) _ _) _ _ _); refine ed_callTy (T := "int") (b_int (by assumption)) bb_int ?_ (hg := by first | exact gl_of gl_draw_int))
  | fail)
local macro_rules | `(tactic| walk_at "pd.it") => `(tactic| first
  | ((with_reducible show eid _ _ _ _ _ _); refine eid_of ?_)
  | fail)
theorem ok_draw (T : T0 w K mg) : CallD P w K mg base 1 (He.ga K "_law_draw") 2 [] spDraw := by
  obtain ⟨fd, F⟩ := f_draw T
  refine CallD.mk0 (ps := ["_law_deal_here", "_law_many"]) F (fun _ _ _ _ _ _ us hl => match us, hl with | [_, _], _ => rfl) (fnD_of F sc_draw fun cdv A outer s H F0 μ ds Qd Ed hr hl h => ?_)
  obtain ⟨p, q, μr, n, rfl, ⟨l, m, ⟨hm0, hm1, hl0, hl1⟩, rfl⟩, hn0, hn1, k⟩ := h
  have hu := hr.units
  have hq : ∀ (l' : List Int) (m' : Int), (q, Cell.lst (l'.map .int)) ∈ dealM p q l' m' ++ μr := fun l' _ => List.mem_cons_of_mem _ List.mem_cons_self
  show sds _ _ [some (.ref p), some (.int n), none] _ _
  -- while
  refine sds_cut (fun δ' μ' => ∃ l', δ' = [some (.ref p), some (.int n), none] ∧ μ' = dealM p q l' m ++ μr ∧ (∀ z ∈ l', 0 ≤ z) ∧ l'.length ≤ 100) ?_ ?_
  · refine sd_while (fun x δ' μ' => ∃ l', δ' = [some (.ref p), some (.int n), none] ∧ μ' = dealM p q l' m ++ μr ∧ x = l'.length ∧ (∀ z ∈ l', 0 ≤ z) ∧ l'.length ≤ 100) l.length ⟨l, rfl, rfl, rfl, hl0, hl1⟩ ?_
    rintro x δ' μ' ⟨l', rfl, rfl, rfl, h1, h2⟩
    walk_at "pd"
    refine opd_neV (x' := .lst (l'.map .int)) (y' := .lst []) hu (.own (hq _ _)) (.same _) (ok_ints _) (by rfl) (depth_ints _) (by decide) ?_
    rw [eqD_nil]
    rcases nil_or_snoc l' with rfl | ⟨l0, z, rfl⟩
    · walk_at "pd"
      exact ⟨[], rfl, rfl, h1, h2⟩
    · rw [map_concat_int]
      have e : (l0.map D.int ++ [D.int z]).isEmpty = false := by cases l0 <;> rfl
      rw [e]
      have h3 : (q, Cell.lst (l0.map D.int ++ [D.int z])) ∈ dealM p q (l0 ++ [z]) m ++ μr := by
        have := hq (l0 ++ [z]) m
        rw [map_concat_int] at this; exact this
      walk_at "pd"
      refine ixd_own h3 (atI_last' _ _) ?_
      walk_at "pd"
      refine ite2 (fun hz => ?_) (fun hz => ?_)
      · walk_at "pd"
        have eμ : dealM p q (l0 ++ [z]) m ++ μr = [(p, Cell.lst [.ref q, .int m])] ++ (q, Cell.lst (l0.map D.int ++ [D.int z])) :: μr := by
          show [(p, Cell.lst [.ref q, .int m]), (q, Cell.lst ((l0 ++ [z]).map D.int))] ++ μr = _
          rw [map_concat_int]; rfl
        rw [eμ]
        refine mtd_pop (d := .int z) (by simp) ?_
        rw [List.dropLast_concat]
        walk_at "pd"
        exact ⟨l0.length, by simp, l0, rfl, rfl, rfl, fun y hy => h1 y (by simp [hy]), by simp at h2; omega⟩
      · walk_at "pd"
        exact ⟨l0 ++ [z], rfl, rfl, h1, h2⟩
  · rintro δ' μ' ⟨l', rfl, rfl, h1, h2⟩
    walk_at "pd"
    refine opd_neV (x' := .lst (l'.map .int)) (y' := .lst []) hu (.own (hq _ _)) (.same _) (ok_ints _) (by rfl) (depth_ints _) (by decide) ?_
    rw [eqD_nil]
    rcases nil_or_snoc l' with rfl | ⟨l0, z, rfl⟩
    · rw [List.map_nil]
      walk_at "pd"
      refine ⟨p, 1, 1, [.ref q, .int m], [], _, rfl, rfl, rfl, rfl, ?_⟩
      walk_at "pd"
      exact k _ _ (Int.emod_nonneg _ (by omega)) (Int.emod_lt_of_pos _ hn0) ⟨[], _, ⟨Int.emod_nonneg _ (by decide), Int.emod_lt_of_pos _ (by decide), (fun z hz => by cases hz), by decide⟩, rfl⟩
    · rw [map_concat_int]
      have e : (l0.map D.int ++ [D.int z]).isEmpty = false := by cases l0 <;> rfl
      rw [e]
      have eμ : dealM p q (l0 ++ [z]) m ++ μr = [(p, Cell.lst [.ref q, .int m])] ++ (q, Cell.lst (l0.map D.int ++ [D.int z])) :: μr := by
        show [(p, Cell.lst [.ref q, .int m]), (q, Cell.lst ((l0 ++ [z]).map D.int))] ++ μr = _
        rw [map_concat_int]; rfl
      rw [eμ]
      walk_at "pd"
      refine mtd_pop (d := .int z) (by simp) ?_
      rw [List.dropLast_concat]
      walk_at "pd"
      refine mtd_append (μ1 := [(p, _)]) (small_lt (by simp at h2 ⊢; omega)) ?_
      rw [← map_concat_int]
      have z0 : 0 ≤ z := h1 z (by simp)
      have z1 : 0 ≤ z / n := Int.ediv_nonneg z0 (by omega)
      walk_at "pd"
      refine k _ _ (Int.emod_nonneg _ (by omega)) (Int.emod_lt_of_pos _ hn0) ⟨l0 ++ [z / n], m, ⟨hm0, hm1, fun y hy => ?_, by simp at h2 ⊢; omega⟩, rfl⟩
      rcases List.mem_append.mp hy with e | e
      · exact h1 y (by simp [e])
      · rw [List.mem_singleton.mp e]; exact z1
end
/-! ### one of some things -/
def spPick : SpD := fun ds μ Q _ => ∃ p q μr x xs, ds = [.ref p, x] ∧ (x = .lst xs ∨ x = .tup xs) ∧ Deal p q μr μ ∧ xs ≠ [] ∧ xs.length < 1000000 ∧ ∀ d ∈ xs, ∀ μ', Deal p q μr μ' → Q d μ'
theorem atI_in {α : Type} {xs : List α} {r : Int} (h0 : 0 ≤ r) (h1 : r < xs.length) : ∃ d ∈ xs, atI xs r = some d := by
  have h : r.toNat < xs.length := by omega
  have e := atI_nat (xs := xs) (j := r.toNat) (List.getElem?_eq_getElem h)
  rw [Int.toNat_of_nonneg h0] at e
  exact ⟨xs[r.toNat], List.getElem_mem h, e⟩
section
abbrev N_pick : List Str := ["_law_deal_here", "_law_some"]
theorem sc_pick : FnScope N_pick ["_law_deal_here", "_law_some"] (defScope spick) := ⟨rfl, rfl, rfl, by decide +kernel, rfl, by decide +kernel, by decide +kernel⟩
theorem v_pick_deal_here : Nm N_pick (defScope spick) 0 "_law_deal_here" := ⟨rfl, by decide +kernel, by decide +kernel, by decide +kernel⟩
theorem v_pick_some : Nm N_pick (defScope spick) 1 "_law_some" := ⟨rfl, by decide +kernel, by decide +kernel, by decide +kernel⟩
theorem gl_pick_draw : (defScope spick).names.lookup ("_law_draw" : Str) = some .globalImplicit := by decide +kernel
theorem gl_pick_len : (defScope spick).names.lookup ("len" : Str) = some .globalImplicit := by decide +kernel
local macro_rules | `(tactic| walk_at "pd.nm") => `(tactic| first
  | ((with_reducible show ed _ (Expr.Name "_law_deal_here" _) _ _ _); first | refine ed_nm v_pick_deal_here rfl ?_ | refine ed_nmB (sc := defScope spick) v_pick_deal_here rfl ?_)
  | ((with_reducible show ed _ (Expr.Name "_law_some" _) _ _ _); first | refine ed_nm v_pick_some rfl ?_ | refine ed_nmB (sc := defScope spick) v_pick_some rfl ?_)
  | fail)
local macro_rules | `(tactic| walk_at "pd.call") => `(tactic| first
  | ((with_reducible show ed _ (Expr.Call (Expr.Name "_law_draw" _) (_ :: _) _ _) _ _ _); refine ed_callC ((ok_draw (by assumption)).at_ _) (by assumption) (by decide) (g_draw (by assumption)) ?_ (hg := by first | exact gl_of gl_pick_draw))
  | ((with_reducible show ed _ (Expr.Call (Expr.Name "len" _) (_ :: _) _ _) _ _ _); refine ed_callB (id := "len") (b_len (by assumption)) bb_len ?_ (hg := by first | exact gl_of gl_pick_len))
  | fail)
local macro_rules | `(tactic| walk_at "pd.it") => `(tactic| first
  | ((with_reducible show eid _ _ _ _ _ _); refine eid_of ?_)
  | fail)
theorem ok_pick (T : T0 w K mg) : CallD P w K mg base 2 (He.ga K "_law_pick") 2 [] spPick := by
  obtain ⟨fd, F⟩ := f_pick T
  refine CallD.mk0 (ps := ["_law_deal_here", "_law_some"]) F (fun _ _ _ _ _ _ us hl => match us, hl with | [_, _], _ => rfl) (fnD_of F sc_pick fun cdv A outer s H F0 μ ds Qd Ed hr hl h => ?_)
  obtain ⟨p, q, μr, x, xs, rfl, hx, hD, hne, hlen, k⟩ := h
  have hpos : 0 < xs.length := List.length_pos_iff.mpr hne
  show sds _ _ [some (.ref p), some x] _ _
  refine sds_cons ?_
  rcases hx with rfl | rfl
  · walk_at "pd"
    refine ⟨p, q, μr, _, rfl, hD, by omega, by omega, fun r μ' h0 h1 hD' => ?_⟩
    obtain ⟨d, hd, e⟩ := atI_in h0 h1
    exact ixd_lst e (k d hd μ' hD')
  · walk_at "pd"
    refine ⟨p, q, μr, _, rfl, hD, by omega, by omega, fun r μ' h0 h1 hD' => ?_⟩
    obtain ⟨d, hd, e⟩ := atI_in h0 h1
    exact ixd_tup e (k d hd μ' hD')
end
end
section
variable {P : Program} {w : World} {K : PySem.W.Frag} {mg : Str → Option Value} {base : Heap}
/-! ### the deal is made -/
def spDeal : SpD := fun ds μ Q _ => ∃ (ns : List Int) (b : Int), ds = [.rl (ns.map .int), .int b] ∧ 0 ≤ b ∧ b ≤ 62 ∧ ns.length ≤ 63 ∧ ∀ p q μ', Deal p q μ μ' → Q (.ref p) μ'
section
abbrev N_deal : List Str := ["_law_script", "_law_base", "_law_cells", "_law_cell", "_law_mixed"]
theorem sc_deal : FnScope N_deal ["_law_script", "_law_base"] (defScope sdeal) := ⟨rfl, rfl, rfl, by decide +kernel, rfl, by decide +kernel, by decide +kernel⟩
theorem v_deal_script : Nm N_deal (defScope sdeal) 0 "_law_script" := ⟨rfl, by decide +kernel, by decide +kernel, by decide +kernel⟩
theorem v_deal_base : Nm N_deal (defScope sdeal) 1 "_law_base" := ⟨rfl, by decide +kernel, by decide +kernel, by decide +kernel⟩
theorem v_deal_cells : Nm N_deal (defScope sdeal) 2 "_law_cells" := ⟨rfl, by decide +kernel, by decide +kernel, by decide +kernel⟩
theorem v_deal_cell : Nm N_deal (defScope sdeal) 3 "_law_cell" := ⟨rfl, by decide +kernel, by decide +kernel, by decide +kernel⟩
theorem w_deal_cell : NmB N_deal 3 "_law_cell" := ⟨rfl, by decide +kernel, by decide +kernel⟩
theorem v_deal_mixed : Nm N_deal (defScope sdeal) 4 "_law_mixed" := ⟨rfl, by decide +kernel, by decide +kernel, by decide +kernel⟩
theorem gl_deal_int : (defScope sdeal).names.lookup ("int" : Str) = some .globalImplicit := by decide +kernel
theorem sl_deal_cells : (defScope sdeal).names.lookup ("_law_cells" : Str) = some .local := by decide +kernel
theorem sl_deal_cell : (defScope sdeal).names.lookup ("_law_cell" : Str) = some .local := by decide +kernel
theorem sl_deal_mixed : (defScope sdeal).names.lookup ("_law_mixed" : Str) = some .local := by decide +kernel
local macro_rules | `(tactic| walk_at "pd.nm") => `(tactic| first
  | ((with_reducible show ed _ (Expr.Name "_law_script" _) _ _ _); first | refine ed_nm v_deal_script rfl ?_ | refine ed_nmB (sc := defScope sdeal) v_deal_script rfl ?_)
  | ((with_reducible show ed _ (Expr.Name "_law_base" _) _ _ _); first | refine ed_nm v_deal_base rfl ?_ | refine ed_nmB (sc := defScope sdeal) v_deal_base rfl ?_)
  | ((with_reducible show ed _ (Expr.Name "_law_cells" _) _ _ _); first | refine ed_nm v_deal_cells rfl ?_ | refine ed_nmB (sc := defScope sdeal) v_deal_cells rfl ?_)
  | ((with_reducible show ed _ (Expr.Name "_law_cell" _) _ _ _); first | refine ed_nm v_deal_cell rfl ?_ | refine ed_nmB (sc := defScope sdeal) v_deal_cell rfl ?_)
  | ((with_reducible show ed _ (Expr.Name "_law_cell" _) _ _ _); refine ed_nmC (sc := defScope sdeal) w_deal_cell rfl ?_)
  | ((with_reducible show ed _ (Expr.Name "_law_mixed" _) _ _ _); first | refine ed_nm v_deal_mixed rfl ?_ | refine ed_nmB (sc := defScope sdeal) v_deal_mixed rfl ?_)
  | ((with_reducible show ed _ (Expr.Name "int" _) _ _ _); refine ed_ty (n := "int") (b_int (by assumption)) bb_int ?_ (hg := by first | exact gl_of gl_deal_int | exact glB_of (sc := defScope sdeal)))
  | fail)
local macro_rules | `(tactic| walk_at "pd.set") => `(tactic| first
  | ((with_reducible show sd _ (Stmt.Assign [Expr.Name "_law_cells" _] (Expr.ListComp _ _ _ _) _) _ _ _); refine sd_setLc (own := [("_law_cell", 3)]) (i := 2) rfl sc_deal.nd rfl (by exact sl_deal_cells) (sw_true rfl (by exact sl_deal_cells) rfl (by decide +kernel)) (blkOk_by (N := N_deal) (sc := defScope sdeal) (by decide +kernel)) ?_)
  | ((with_reducible show sd _ (Stmt.Assign [Expr.Name "_law_cell" _] (Expr.ListComp _ _ _ _) _) _ _ _); refine sd_setLc (own := [("_law_cell", 3)]) (i := 3) rfl sc_deal.nd rfl (by exact sl_deal_cell) (sw_true rfl (by exact sl_deal_cell) rfl (by decide +kernel)) (blkOk_by (N := N_deal) (sc := defScope sdeal) (by decide +kernel)) ?_)
  | ((with_reducible show sd _ (Stmt.Assign [Expr.Name "_law_mixed" _] (Expr.ListComp _ _ _ _) _) _ _ _); refine sd_setLc (own := [("_law_cell", 3)]) (i := 4) rfl sc_deal.nd rfl (by exact sl_deal_mixed) (sw_true rfl (by exact sl_deal_mixed) rfl (by decide +kernel)) (blkOk_by (N := N_deal) (sc := defScope sdeal) (by decide +kernel)) ?_)
  | ((with_reducible show sd _ (Stmt.Assign [Expr.Name "_law_cells" _] _ _) _ _ _); refine sd_nm v_deal_cells sc_deal.nd ?_)
  | ((with_reducible show sd _ (Stmt.Assign [Expr.Name "_law_cell" _] _ _) _ _ _); refine sd_nm v_deal_cell sc_deal.nd ?_)
  | ((with_reducible show sd _ (Stmt.Assign [Expr.Name "_law_mixed" _] _ _) _ _ _); refine sd_nm v_deal_mixed sc_deal.nd ?_)
  | fail)
local macro_rules | `(tactic| walk_at "pd.g") => `(tactic| first
  | ((with_reducible show gd _ (Expr.Name "_law_cells" _) _ _ _ _); refine gd_nm v_deal_cells sc_deal.nd ?_)
  | ((with_reducible show gd _ (Expr.Name "_law_cell" _) _ _ _ _); refine gd_nm v_deal_cell sc_deal.nd ?_)
  | ((with_reducible show gv _ (Expr.Name "_law_cell" _) _ _ _ _ _); refine gv_nmC (sc := defScope sdeal) w_deal_cell sc_deal.nd (by decide) ?_)
  | ((with_reducible show gd _ (Expr.Name "_law_mixed" _) _ _ _ _); refine gd_nm v_deal_mixed sc_deal.nd ?_)
  | fail)
local macro_rules | `(tactic| walk_at "pd.call") => `(tactic| first
  | ((with_reducible show ed _ (Expr.Call (Expr.Name "abs" _) (_ :: _) _ _) _ _ _); refine ed_callB (id := "abs") (b_abs (by assumption)) bb_abs ?_ (hg := by first | exact glB_of (sc := defScope sdeal)))
  | ((with_reducible show ed _ (Expr.Call (Expr.Name "int" _) (_ :: _) _ _) _ _ _); refine ed_callTy (T := "int") (b_int (by assumption)) bb_int ?_ (hg := by first | exact gl_of gl_deal_int | exact glB_of (sc := defScope sdeal)))
  | fail)
local macro_rules | `(tactic| walk_at "pd.lc") => `(tactic| first
  | ((with_reducible show ed _ (Expr.ListComp _ [_] _ _) _ _ _); refine ed_lc (own := [("_law_cell", 3)]) [("_law_cell", 3)] rfl rfl sc_deal.nd (blkOk_by (N := N_deal) (sc := defScope sdeal) (by decide +kernel)) ?_)
  | fail)
local macro_rules | `(tactic| walk_at "pd.it") => `(tactic| first
  | ((with_reducible show eid _ _ _ _ _ _); refine eid_of ?_)
  | fail)
theorem ok_deal (T : T0 w K mg) : CallD P w K mg base 1 (He.ga K "_law_deal") 2 [] spDeal := by
  obtain ⟨fd, F⟩ := f_deal T
  refine CallD.mk0 (ps := ["_law_script", "_law_base"]) F (fun _ _ _ _ _ _ us hl => match us, hl with | [_, _], _ => rfl) (fnD_of F sc_deal fun cdv A outer s H F0 μ ds Qd Ed hr hl h => ?_)
  obtain ⟨ns, b, rfl, hb0, hb1, hn, k⟩ := h
  have hu := hr.units
  show sds _ _ [some (.rl (ns.map .int)), some (.int b), none, none, none] _ _
  refine sds_cons ?_
  walk_at "pd"
  refine lcd_fm (fun _ => true) (fun d => .int (if intOf d < 0 then -intOf d else intOf d)) ?_
  walk_at "pd"
  obtain ⟨ys, e, h1, -⟩ := cut_ints ns (some b) (some 62)
  rw [e]
  refine ⟨by rw [List.length_map]; omega, trivial, fun d hd => ?_, ?_⟩
  · obtain ⟨z, hz, rfl⟩ := List.mem_map.mp hd
    walk_at "pd"
    refine ⟨rfl, rfl, fun _ => ?_⟩
    walk_at "pd"
    exact ⟨rfl, rfl⟩
  · rw [fm_ints _ _ (fun z => if z < 0 then -z else z) (fun _ => rfl)]
    have hl : ((ys.filter (fun _ => true)).map (fun z : Int => if z < 0 then -z else z)).length ≤ 63 := by
      rw [List.length_map]; exact Nat.le_trans (List.length_filter_le _ _) (by omega)
    have h0 : ∀ z ∈ (ys.filter (fun _ => true)).map (fun z : Int => if z < 0 then -z else z), 0 ≤ z := by
      intro z hz
      obtain ⟨y, -, rfl⟩ := List.mem_map.mp hz
      show 0 ≤ if y < 0 then -y else y; split <;> omega
    generalize (ys.filter (fun _ => true)).map (fun z : Int => if z < 0 then -z else z) = cs at hl h0 ⊢
    walk_at "pd"
    refine sd_for rfl ?_
    walk_at "pd"
    refine ⟨fun i δ' μ' => ∃ x m, δ' = [some (.rl (ns.map .int)), some (.int b), some (.lst (cs.map .int)), x, some (.int m)] ∧ μ' = μ ∧ 0 ≤ m ∧ m < 2147483647, ⟨none, _, rfl, rfl, by omega, by omega⟩, fun _ _ _ _ _ => trivial, ?_, ?_⟩
    · rintro i d δ' μ' hd ⟨x, m, rfl, rfl, m0, m1⟩
      obtain ⟨z, hz, rfl⟩ := List.mem_map.mp (List.mem_of_getElem? hd)
      have z0 := h0 z hz
      walk_at "pd"
      exact ⟨_, _, rfl, rfl, Int.emod_nonneg _ (by decide), Int.emod_lt_of_pos _ (by decide)⟩
    · rintro δ' μ' ⟨x, m, rfl, rfl, m0, m1⟩
      refine sds_cons ?_
      refine sd_ret ?_
      refine ed_lstO ?_
      refine ea_cons ?_
      refine ed_revO ?_
      walk_at "pd"
      refine lcd_fm (fun d => decide (10 ^ 18 ≤ intOf d)) (fun d => d) ?_
      walk_at "pd"
      refine ⟨by rw [List.length_map]; omega, trivial, fun d hd => ?_, ?_⟩
      · obtain ⟨z, hz, rfl⟩ := List.mem_map.mp hd
        walk_at "pd"
        refine ⟨rfl, rfl, fun _ => ?_⟩
        walk_at "pd"
        exact ⟨rfl, rfl⟩
      · rw [fm_ints _ _ (fun z => z) (fun _ => rfl)]
        refine ⟨_, rfl, fun q => ?_⟩
        walk_at "pd"
        refine fun p => k p q _ ⟨(cs.filter (fun z => decide (10 ^ 18 ≤ z))).reverse, m, ⟨m0, m1, fun z hz => h0 z ?_, ?_⟩, ?_⟩
        · exact (List.mem_filter.mp (List.mem_reverse.mp hz)).1
        · rw [List.length_reverse]; exact Nat.le_trans (List.length_filter_le _ _) (by omega)
        · simp [dealM, intOf]; rfl
end
end
section
variable {P : Program} {w : World} {K : PySem.W.Frag} {mg : Str → Option Value} {base : Heap}
/-! ### errors as values -/
theorem xv_InvalidRow (T : T0 w K mg) : ExcMkV P w K mg base (He.ga K "InvalidRow") "word" := by
  obtain ⟨fd, F⟩ := f_InvalidRow_init T
  exact ⟨xn_InvalidRow T, _, _, _, _, _, fd, _, basVE, xg_InvalidRow T, xi_InvalidRow T, xt_InvalidRow T, FunD.bindsN (ps := ["self", "word"]) F (fun _ _ _ _ _ _ us hl => match us, hl with | [_, _], _ => rfl), bindsK1 (ps := ["self", "word"]) (nm := "word") F (fun _ _ _ _ _ _ u v => rfl), fn_oexG basVE F sc_InvalidRow_init v_InvalidRow_init_0 v_InvalidRow_init_1⟩
theorem xv_InvalidStore (T : T0 w K mg) : ExcMkV P w K mg base (He.ga K "InvalidStore") "word" := by
  obtain ⟨fd, F⟩ := f_InvalidStore_init T
  exact ⟨xn_InvalidStore T, _, _, _, _, _, fd, _, basVE, xg_InvalidStore T, xi_InvalidStore T, xt_InvalidStore T, FunD.bindsN (ps := ["self", "word"]) F (fun _ _ _ _ _ _ us hl => match us, hl with | [_, _], _ => rfl), bindsK1 (ps := ["self", "word"]) (nm := "word") F (fun _ _ _ _ _ _ u v => rfl), fn_oexG basVE F sc_InvalidStore_init v_InvalidStore_init_0 v_InvalidStore_init_1⟩
theorem xv_InvalidText (T : T0 w K mg) : ExcMkV P w K mg base (He.ga K "InvalidText") "at" := by
  obtain ⟨fd, F⟩ := f_InvalidText_init T
  exact ⟨xn_InvalidText T, _, _, _, _, _, fd, _, basVE, xg_InvalidText T, xi_InvalidText T, xt_InvalidText T, FunD.bindsN (ps := ["self", "at"]) F (fun _ _ _ _ _ _ us hl => match us, hl with | [_, _], _ => rfl), bindsK1 (ps := ["self", "at"]) (nm := "at") F (fun _ _ _ _ _ _ u v => rfl), fn_oexG basVE F sc_InvalidText_init v_InvalidText_init_0 v_InvalidText_init_1⟩
theorem xv_InvalidEvent (T : T0 w K mg) : ExcMkV P w K mg base (He.ga K "InvalidEvent") "at" := by
  obtain ⟨fd, F⟩ := f_InvalidEvent_init T
  exact ⟨xn_InvalidEvent T, _, _, _, _, _, fd, _, basVE, xg_InvalidEvent T, xi_InvalidEvent T, xt_InvalidEvent T, FunD.bindsN (ps := ["self", "at"]) F (fun _ _ _ _ _ _ us hl => match us, hl with | [_, _], _ => rfl), bindsK1 (ps := ["self", "at"]) (nm := "at") F (fun _ _ _ _ _ _ u v => rfl), fn_oexG basVE F sc_InvalidEvent_init v_InvalidEvent_init_0 v_InvalidEvent_init_1⟩
theorem xv_Refused (T : T0 w K mg) : ExcMkV P w K mg base (He.ga K "Refused") "at" := by
  obtain ⟨fd, F⟩ := f_Refused_init T
  exact ⟨xn_Refused T, _, _, _, _, _, fd, _, basVE, xg_Refused T, xi_Refused T, xt_Refused T, FunD.bindsN (ps := ["self", "at"]) F (fun _ _ _ _ _ _ us hl => match us, hl with | [_, _], _ => rfl), bindsK1 (ps := ["self", "at"]) (nm := "at") F (fun _ _ _ _ _ _ u v => rfl), fn_oexG basVE F sc_Refused_init v_Refused_init_0 v_Refused_init_1⟩
theorem xv_NoRow (T : T0 w K mg) : ExcMkV P w K mg base (He.ga K "NoRow") "at" := by
  obtain ⟨fd, F⟩ := f_NoRow_init T
  exact ⟨xn_NoRow T, _, _, _, _, _, fd, _, basIE, xg_NoRow T, xi_NoRow T, xt_NoRow T, FunD.bindsN (ps := ["self", "at"]) F (fun _ _ _ _ _ _ us hl => match us, hl with | [_, _], _ => rfl), bindsK1 (ps := ["self", "at"]) (nm := "at") F (fun _ _ _ _ _ _ u v => rfl), fn_oexG basIE F sc_NoRow_init v_NoRow_init_0 v_NoRow_init_1⟩
theorem xv_NoDeed (T : T0 w K mg) : ExcMkV P w K mg base (He.ga K "NoDeed") "at" := by
  obtain ⟨fd, F⟩ := f_NoDeed_init T
  exact ⟨xn_NoDeed T, _, _, _, _, _, fd, _, basIE, xg_NoDeed T, xi_NoDeed T, xt_NoDeed T, FunD.bindsN (ps := ["self", "at"]) F (fun _ _ _ _ _ _ us hl => match us, hl with | [_, _], _ => rfl), bindsK1 (ps := ["self", "at"]) (nm := "at") F (fun _ _ _ _ _ _ u v => rfl), fn_oexG basIE F sc_NoDeed_init v_NoDeed_init_0 v_NoDeed_init_1⟩
theorem xv_NoEvent (T : T0 w K mg) : ExcMkV P w K mg base (He.ga K "NoEvent") "at" := by
  obtain ⟨fd, F⟩ := f_NoEvent_init T
  exact ⟨xn_NoEvent T, _, _, _, _, _, fd, _, basIE, xg_NoEvent T, xi_NoEvent T, xt_NoEvent T, FunD.bindsN (ps := ["self", "at"]) F (fun _ _ _ _ _ _ us hl => match us, hl with | [_, _], _ => rfl), bindsK1 (ps := ["self", "at"]) (nm := "at") F (fun _ _ _ _ _ _ u v => rfl), fn_oexG basIE F sc_NoEvent_init v_NoEvent_init_0 v_NoEvent_init_1⟩
/-- of which classes an error is -/
structure ExcB (K : PySem.W.Frag) (C : Addr) (b0 b1 b2 b3 b4 b5 b6 b7 b8 b9 b10 b11 b12 : Bool) : Prop where
  xc : ExcC K C
  k0 : PySem.W.kitOne K (.ref C) (.ref (He.ga K "InvalidRow")) = some b0
  k1 : PySem.W.kitOne K (.ref C) (.ref (He.ga K "InvalidStore")) = some b1
  k2 : PySem.W.kitOne K (.ref C) (.ref (He.ga K "InvalidText")) = some b2
  k3 : PySem.W.kitOne K (.ref C) (.ref (He.ga K "InvalidEvent")) = some b3
  k4 : PySem.W.kitOne K (.ref C) (.ref (He.ga K "Refused")) = some b4
  k5 : PySem.W.kitOne K (.ref C) (.ref (He.ga K "InvalidGoal")) = some b5
  k6 : PySem.W.kitOne K (.ref C) (.ref (He.ga K "InvalidCommand")) = some b6
  k7 : PySem.W.kitOne K (.ref C) (.ref (He.ga K "NoRow")) = some b7
  k8 : PySem.W.kitOne K (.ref C) (.ref (He.ga K "NoDeed")) = some b8
  k9 : PySem.W.kitOne K (.ref C) (.ref (He.ga K "NoEvent")) = some b9
  k10 : PySem.W.kitOne K (.ref C) (.ref (He.ga K "EndError")) = some b10
  k11 : PySem.W.kitOne K (.ref C) (.type "ValueError") = some b11
  k12 : PySem.W.kitOne K (.ref C) (.type "IndexError") = some b12
theorem eb_InvalidRow (T : T0 w K mg) : ExcB K (He.ga K "InvalidRow") true false false false false false false false false false true true false := ⟨xc_InvalidRow T, xk_InvalidRow_InvalidRow T, xk_InvalidRow_InvalidStore T, xk_InvalidRow_InvalidText T, xk_InvalidRow_InvalidEvent T, xk_InvalidRow_Refused T, xk_InvalidRow_InvalidGoal T, xk_InvalidRow_InvalidCommand T, xk_InvalidRow_NoRow T, xk_InvalidRow_NoDeed T, xk_InvalidRow_NoEvent T, xk_InvalidRow_EndError T, xk_InvalidRow_ValueError T, xk_InvalidRow_IndexError T⟩
theorem eb_InvalidStore (T : T0 w K mg) : ExcB K (He.ga K "InvalidStore") false true false false false false false false false false true true false := ⟨xc_InvalidStore T, xk_InvalidStore_InvalidRow T, xk_InvalidStore_InvalidStore T, xk_InvalidStore_InvalidText T, xk_InvalidStore_InvalidEvent T, xk_InvalidStore_Refused T, xk_InvalidStore_InvalidGoal T, xk_InvalidStore_InvalidCommand T, xk_InvalidStore_NoRow T, xk_InvalidStore_NoDeed T, xk_InvalidStore_NoEvent T, xk_InvalidStore_EndError T, xk_InvalidStore_ValueError T, xk_InvalidStore_IndexError T⟩
theorem eb_InvalidText (T : T0 w K mg) : ExcB K (He.ga K "InvalidText") false false true false false false false false false false true true false := ⟨xc_InvalidText T, xk_InvalidText_InvalidRow T, xk_InvalidText_InvalidStore T, xk_InvalidText_InvalidText T, xk_InvalidText_InvalidEvent T, xk_InvalidText_Refused T, xk_InvalidText_InvalidGoal T, xk_InvalidText_InvalidCommand T, xk_InvalidText_NoRow T, xk_InvalidText_NoDeed T, xk_InvalidText_NoEvent T, xk_InvalidText_EndError T, xk_InvalidText_ValueError T, xk_InvalidText_IndexError T⟩
theorem eb_InvalidEvent (T : T0 w K mg) : ExcB K (He.ga K "InvalidEvent") false false false true false false false false false false true true false := ⟨xc_InvalidEvent T, xk_InvalidEvent_InvalidRow T, xk_InvalidEvent_InvalidStore T, xk_InvalidEvent_InvalidText T, xk_InvalidEvent_InvalidEvent T, xk_InvalidEvent_Refused T, xk_InvalidEvent_InvalidGoal T, xk_InvalidEvent_InvalidCommand T, xk_InvalidEvent_NoRow T, xk_InvalidEvent_NoDeed T, xk_InvalidEvent_NoEvent T, xk_InvalidEvent_EndError T, xk_InvalidEvent_ValueError T, xk_InvalidEvent_IndexError T⟩
theorem eb_Refused (T : T0 w K mg) : ExcB K (He.ga K "Refused") false false false false true false false false false false true true false := ⟨xc_Refused T, xk_Refused_InvalidRow T, xk_Refused_InvalidStore T, xk_Refused_InvalidText T, xk_Refused_InvalidEvent T, xk_Refused_Refused T, xk_Refused_InvalidGoal T, xk_Refused_InvalidCommand T, xk_Refused_NoRow T, xk_Refused_NoDeed T, xk_Refused_NoEvent T, xk_Refused_EndError T, xk_Refused_ValueError T, xk_Refused_IndexError T⟩
theorem eb_InvalidGoal (T : T0 w K mg) : ExcB K (He.ga K "InvalidGoal") false false false false false true false false false false true true false := ⟨xc_InvalidGoal T, xk_InvalidGoal_InvalidRow T, xk_InvalidGoal_InvalidStore T, xk_InvalidGoal_InvalidText T, xk_InvalidGoal_InvalidEvent T, xk_InvalidGoal_Refused T, xk_InvalidGoal_InvalidGoal T, xk_InvalidGoal_InvalidCommand T, xk_InvalidGoal_NoRow T, xk_InvalidGoal_NoDeed T, xk_InvalidGoal_NoEvent T, xk_InvalidGoal_EndError T, xk_InvalidGoal_ValueError T, xk_InvalidGoal_IndexError T⟩
theorem eb_InvalidCommand (T : T0 w K mg) : ExcB K (He.ga K "InvalidCommand") false false false false false false true false false false true true false := ⟨xc_InvalidCommand T, xk_InvalidCommand_InvalidRow T, xk_InvalidCommand_InvalidStore T, xk_InvalidCommand_InvalidText T, xk_InvalidCommand_InvalidEvent T, xk_InvalidCommand_Refused T, xk_InvalidCommand_InvalidGoal T, xk_InvalidCommand_InvalidCommand T, xk_InvalidCommand_NoRow T, xk_InvalidCommand_NoDeed T, xk_InvalidCommand_NoEvent T, xk_InvalidCommand_EndError T, xk_InvalidCommand_ValueError T, xk_InvalidCommand_IndexError T⟩
theorem eb_NoRow (T : T0 w K mg) : ExcB K (He.ga K "NoRow") false false false false false false false true false false false false true := ⟨xc_NoRow T, xk_NoRow_InvalidRow T, xk_NoRow_InvalidStore T, xk_NoRow_InvalidText T, xk_NoRow_InvalidEvent T, xk_NoRow_Refused T, xk_NoRow_InvalidGoal T, xk_NoRow_InvalidCommand T, xk_NoRow_NoRow T, xk_NoRow_NoDeed T, xk_NoRow_NoEvent T, xk_NoRow_EndError T, xk_NoRow_ValueError T, xk_NoRow_IndexError T⟩
theorem eb_NoDeed (T : T0 w K mg) : ExcB K (He.ga K "NoDeed") false false false false false false false false true false false false true := ⟨xc_NoDeed T, xk_NoDeed_InvalidRow T, xk_NoDeed_InvalidStore T, xk_NoDeed_InvalidText T, xk_NoDeed_InvalidEvent T, xk_NoDeed_Refused T, xk_NoDeed_InvalidGoal T, xk_NoDeed_InvalidCommand T, xk_NoDeed_NoRow T, xk_NoDeed_NoDeed T, xk_NoDeed_NoEvent T, xk_NoDeed_EndError T, xk_NoDeed_ValueError T, xk_NoDeed_IndexError T⟩
theorem eb_NoEvent (T : T0 w K mg) : ExcB K (He.ga K "NoEvent") false false false false false false false false false true false false true := ⟨xc_NoEvent T, xk_NoEvent_InvalidRow T, xk_NoEvent_InvalidStore T, xk_NoEvent_InvalidText T, xk_NoEvent_InvalidEvent T, xk_NoEvent_Refused T, xk_NoEvent_InvalidGoal T, xk_NoEvent_InvalidCommand T, xk_NoEvent_NoRow T, xk_NoEvent_NoDeed T, xk_NoEvent_NoEvent T, xk_NoEvent_EndError T, xk_NoEvent_ValueError T, xk_NoEvent_IndexError T⟩
theorem eb_EndError (T : T0 w K mg) : ExcB K (He.ga K "EndError") false false false false false false false false false false true true false := ⟨xc_EndError T, xk_EndError_InvalidRow T, xk_EndError_InvalidStore T, xk_EndError_InvalidText T, xk_EndError_InvalidEvent T, xk_EndError_Refused T, xk_EndError_InvalidGoal T, xk_EndError_InvalidCommand T, xk_EndError_NoRow T, xk_EndError_NoDeed T, xk_EndError_NoEvent T, xk_EndError_EndError T, xk_EndError_ValueError T, xk_EndError_IndexError T⟩
def spBases (K : PySem.W.Frag) : SpD := fun ds μ Q _ => ∃ C ns xs b0 b1 b2 b3 b4 b5 b6 b7 b8 b9 b10 b11 b12, ds = [.exv C ns xs] ∧ ExcB K C b0 b1 b2 b3 b4 b5 b6 b7 b8 b9 b10 b11 b12 ∧ Q (.lst [.bl b0, .bl b1, .bl b2, .bl b3, .bl b4, .bl b5, .bl b6, .bl b7, .bl b8, .bl b9, .bl b10, .bl b11, .bl b12]) μ
section
abbrev N_bases : List Str := ["_law_e", "_law_found"]
theorem sc_bases : FnScope N_bases ["_law_e"] (defScope sbases) := ⟨rfl, rfl, rfl, by decide +kernel, rfl, by decide +kernel, by decide +kernel⟩
theorem v_bases_e : Nm N_bases (defScope sbases) 0 "_law_e" := ⟨rfl, by decide +kernel, by decide +kernel, by decide +kernel⟩
theorem v_bases_found : Nm N_bases (defScope sbases) 1 "_law_found" := ⟨rfl, by decide +kernel, by decide +kernel, by decide +kernel⟩
theorem gl_bases_EndError : (defScope sbases).names.lookup ("EndError" : Str) = some .globalImplicit := by decide +kernel
theorem gl_bases_IndexError : (defScope sbases).names.lookup ("IndexError" : Str) = some .globalImplicit := by decide +kernel
theorem gl_bases_InvalidCommand : (defScope sbases).names.lookup ("InvalidCommand" : Str) = some .globalImplicit := by decide +kernel
theorem gl_bases_InvalidEvent : (defScope sbases).names.lookup ("InvalidEvent" : Str) = some .globalImplicit := by decide +kernel
theorem gl_bases_InvalidGoal : (defScope sbases).names.lookup ("InvalidGoal" : Str) = some .globalImplicit := by decide +kernel
theorem gl_bases_InvalidRow : (defScope sbases).names.lookup ("InvalidRow" : Str) = some .globalImplicit := by decide +kernel
theorem gl_bases_InvalidStore : (defScope sbases).names.lookup ("InvalidStore" : Str) = some .globalImplicit := by decide +kernel
theorem gl_bases_InvalidText : (defScope sbases).names.lookup ("InvalidText" : Str) = some .globalImplicit := by decide +kernel
theorem gl_bases_NoDeed : (defScope sbases).names.lookup ("NoDeed" : Str) = some .globalImplicit := by decide +kernel
theorem gl_bases_NoEvent : (defScope sbases).names.lookup ("NoEvent" : Str) = some .globalImplicit := by decide +kernel
theorem gl_bases_NoRow : (defScope sbases).names.lookup ("NoRow" : Str) = some .globalImplicit := by decide +kernel
theorem gl_bases_Refused : (defScope sbases).names.lookup ("Refused" : Str) = some .globalImplicit := by decide +kernel
theorem gl_bases_ValueError : (defScope sbases).names.lookup ("ValueError" : Str) = some .globalImplicit := by decide +kernel
theorem gl_bases_isinstance : (defScope sbases).names.lookup ("isinstance" : Str) = some .globalImplicit := by decide +kernel
local macro_rules | `(tactic| walk_at "pd.nm") => `(tactic| first
  | ((with_reducible show ed _ (Expr.Name "_law_e" _) _ _ _); first | refine ed_nm v_bases_e rfl ?_ | refine ed_nmB (sc := defScope sbases) v_bases_e rfl ?_)
  | ((with_reducible show ed _ (Expr.Name "_law_found" _) _ _ _); first | refine ed_nm v_bases_found rfl ?_ | refine ed_nmB (sc := defScope sbases) v_bases_found rfl ?_)
  | ((with_reducible show ed _ (Expr.Name "EndError" _) _ _ _); refine ed_gref (g_EndError (by assumption)) ?_ (hg := by first | exact gl_of gl_bases_EndError))
  | ((with_reducible show ed _ (Expr.Name "IndexError" _) _ _ _); refine ed_ty (n := "IndexError") (b_IndexError (by assumption)) bb_IndexError ?_ (hg := by first | exact gl_of gl_bases_IndexError))
  | ((with_reducible show ed _ (Expr.Name "InvalidCommand" _) _ _ _); refine ed_gref (g_InvalidCommand (by assumption)) ?_ (hg := by first | exact gl_of gl_bases_InvalidCommand))
  | ((with_reducible show ed _ (Expr.Name "InvalidEvent" _) _ _ _); refine ed_gref (g_InvalidEvent (by assumption)) ?_ (hg := by first | exact gl_of gl_bases_InvalidEvent))
  | ((with_reducible show ed _ (Expr.Name "InvalidGoal" _) _ _ _); refine ed_gref (g_InvalidGoal (by assumption)) ?_ (hg := by first | exact gl_of gl_bases_InvalidGoal))
  | ((with_reducible show ed _ (Expr.Name "InvalidRow" _) _ _ _); refine ed_gref (g_InvalidRow (by assumption)) ?_ (hg := by first | exact gl_of gl_bases_InvalidRow))
  | ((with_reducible show ed _ (Expr.Name "InvalidStore" _) _ _ _); refine ed_gref (g_InvalidStore (by assumption)) ?_ (hg := by first | exact gl_of gl_bases_InvalidStore))
  | ((with_reducible show ed _ (Expr.Name "InvalidText" _) _ _ _); refine ed_gref (g_InvalidText (by assumption)) ?_ (hg := by first | exact gl_of gl_bases_InvalidText))
  | ((with_reducible show ed _ (Expr.Name "NoDeed" _) _ _ _); refine ed_gref (g_NoDeed (by assumption)) ?_ (hg := by first | exact gl_of gl_bases_NoDeed))
  | ((with_reducible show ed _ (Expr.Name "NoEvent" _) _ _ _); refine ed_gref (g_NoEvent (by assumption)) ?_ (hg := by first | exact gl_of gl_bases_NoEvent))
  | ((with_reducible show ed _ (Expr.Name "NoRow" _) _ _ _); refine ed_gref (g_NoRow (by assumption)) ?_ (hg := by first | exact gl_of gl_bases_NoRow))
  | ((with_reducible show ed _ (Expr.Name "Refused" _) _ _ _); refine ed_gref (g_Refused (by assumption)) ?_ (hg := by first | exact gl_of gl_bases_Refused))
  | ((with_reducible show ed _ (Expr.Name "ValueError" _) _ _ _); refine ed_ty (n := "ValueError") (b_ValueError (by assumption)) bb_ValueError ?_ (hg := by first | exact gl_of gl_bases_ValueError))
  | fail)
local macro_rules | `(tactic| walk_at "pd.set") => `(tactic| first
  | ((with_reducible show sd _ (Stmt.Assign [Expr.Name "_law_found" _] _ _) _ _ _); refine sd_nm v_bases_found sc_bases.nd ?_)
  | fail)
local macro_rules | `(tactic| walk_at "pd.g") => `(tactic| first
  | ((with_reducible show gd _ (Expr.Name "_law_found" _) _ _ _ _); refine gd_nm v_bases_found sc_bases.nd ?_)
  | fail)
local macro_rules | `(tactic| walk_at "pd.call") => `(tactic| first
  | ((with_reducible show ed _ (Expr.Call (Expr.Name "isinstance" _) (_ :: _) _ _) _ _ _); refine ed_callB (id := "isinstance") (b_isinstance (by assumption)) bb_isinstance ?_ (hg := by first | exact gl_of gl_bases_isinstance))
  | fail)
local macro_rules | `(tactic| walk_at "pd.it") => `(tactic| first
  | ((with_reducible show eid _ _ _ _ _ _); refine eid_of ?_)
  | fail)
theorem ok_bases (T : T0 w K mg) : CallF P w K mg base 1 (He.ga K "_law_bases") 1 [] (spBases K) := by
  obtain ⟨fd, F⟩ := f_bases T
  refine CallF.mk0 (ps := ["_law_e"]) F (fun _ _ _ _ _ _ us hl => match us, hl with | [_], _ => rfl) (fnD_of F sc_bases fun cdv A outer s H F0 μ ds Qd Ed hr hl h => ?_)
  obtain ⟨C, ns, xs, b0, b1, b2, b3, b4, b5, b6, b7, b8, b9, b10, b11, b12, rfl, E, q⟩ := h
  show sds _ _ [some (.exv C ns xs), none] _ _
  refine sds_cons ?_
  walk_at "pd"
  refine cld_isV E.xc rfl E.k0 ?_
  walk_at "pd"
  refine cld_isV E.xc rfl E.k1 ?_
  walk_at "pd"
  refine cld_isV E.xc rfl E.k2 ?_
  walk_at "pd"
  walk_at "pd"
  refine cld_isV E.xc rfl E.k3 ?_
  walk_at "pd"
  refine cld_isV E.xc rfl E.k4 ?_
  walk_at "pd"
  refine cld_isV E.xc rfl E.k5 ?_
  walk_at "pd"
  walk_at "pd"
  refine cld_isV E.xc rfl E.k6 ?_
  walk_at "pd"
  refine cld_isV E.xc rfl E.k7 ?_
  walk_at "pd"
  refine cld_isV E.xc rfl E.k8 ?_
  walk_at "pd"
  refine cld_isV E.xc rfl E.k9 ?_
  walk_at "pd"
  refine cld_isV E.xc rfl E.k10 ?_
  walk_at "pd"
  refine cld_isV E.xc rfl E.k11 ?_
  walk_at "pd"
  refine cld_isV E.xc rfl E.k12 ?_
  walk_at "pd"
  exact q
end
end
section
variable {P : Program} {w : World} {K : PySem.W.Frag} {mg : Str → Option Value} {base : Heap}
/-! ### what is due, what is made -/
theorem lt_line {n : Nat} (h : n ≤ 2000000) : n < sizeLine := Nat.lt_of_le_of_lt h (by decide)
def dueB (s : Nat) : List Bool := ((List.range 10).map fun i => decide (i = s)) ++ [decide (s < 7), decide (s < 7), decide (6 < s)]
def spDue : SpD := fun ds μ Q _ => ∃ s : Nat, ds = [.int (s : Int)] ∧ s ≤ 9 ∧ Q (.lst ((dueB s).map .bl)) μ
section
abbrev N_due : List Str := ["_law_spot", "_law_found", "_law_other"]
theorem sc_due : FnScope N_due ["_law_spot"] (defScope sdue) := ⟨rfl, rfl, rfl, by decide +kernel, rfl, by decide +kernel, by decide +kernel⟩
theorem v_due_spot : Nm N_due (defScope sdue) 0 "_law_spot" := ⟨rfl, by decide +kernel, by decide +kernel, by decide +kernel⟩
theorem v_due_found : Nm N_due (defScope sdue) 1 "_law_found" := ⟨rfl, by decide +kernel, by decide +kernel, by decide +kernel⟩
theorem w_due_other : NmB N_due 2 "_law_other" := ⟨rfl, by decide +kernel, by decide +kernel⟩
theorem gl_due_range : (defScope sdue).names.lookup ("range" : Str) = some .globalImplicit := by decide +kernel
theorem sl_due_found : (defScope sdue).names.lookup ("_law_found" : Str) = some .local := by decide +kernel
local macro_rules | `(tactic| walk_at "pd.nm") => `(tactic| first
  | ((with_reducible show ed _ (Expr.Name "_law_spot" _) _ _ _); first | refine ed_nm v_due_spot rfl ?_ | refine ed_nmB (sc := defScope sdue) v_due_spot rfl ?_)
  | ((with_reducible show ed _ (Expr.Name "_law_found" _) _ _ _); first | refine ed_nm v_due_found rfl ?_ | refine ed_nmB (sc := defScope sdue) v_due_found rfl ?_)
  | ((with_reducible show ed _ (Expr.Name "_law_other" _) _ _ _); refine ed_nmC (sc := defScope sdue) w_due_other rfl ?_)
  | ((with_reducible show ed _ (Expr.Name "range" _) _ _ _); refine ed_ty (n := "range") (b_range (by assumption)) bb_range ?_ (hg := by first | exact gl_of gl_due_range | exact glB_of (sc := defScope sdue)))
  | fail)
local macro_rules | `(tactic| walk_at "pd.set") => `(tactic| first
  | ((with_reducible show sd _ (Stmt.Assign [Expr.Name "_law_found" _] (Expr.ListComp _ _ _ _) _) _ _ _); refine sd_setLc (own := [("_law_other", 2)]) (i := 1) rfl sc_due.nd rfl (by exact sl_due_found) (sw_true rfl (by exact sl_due_found) rfl (by decide +kernel)) (blkOk_by (N := N_due) (sc := defScope sdue) (by decide +kernel)) ?_)
  | ((with_reducible show sd _ (Stmt.Assign [Expr.Name "_law_found" _] _ _) _ _ _); refine sd_nm v_due_found sc_due.nd ?_)
  | fail)
local macro_rules | `(tactic| walk_at "pd.g") => `(tactic| first
  | ((with_reducible show gd _ (Expr.Name "_law_found" _) _ _ _ _); refine gd_nm v_due_found sc_due.nd ?_)
  | ((with_reducible show gv _ (Expr.Name "_law_other" _) _ _ _ _ _); refine gv_nmC (sc := defScope sdue) w_due_other sc_due.nd (by decide) ?_)
  | fail)
local macro_rules | `(tactic| walk_at "pd.lc") => `(tactic| first
  | ((with_reducible show ed _ (Expr.ListComp _ [_] _ _) _ _ _); refine ed_lc (own := [("_law_other", 2)]) [("_law_other", 2)] rfl rfl sc_due.nd (blkOk_by (N := N_due) (sc := defScope sdue) (by decide +kernel)) ?_)
  | fail)
local macro_rules | `(tactic| walk_at "pd.it") => `(tactic| first
  | ((with_reducible show eid _ _ (Expr.Call (Expr.Name "range" _) [_] _ _) _ _ _); refine eid_range (b_range (by assumption)) ?_ (hg := by first | exact gl_of gl_due_range | exact glB_of (sc := defScope sdue)))
  | ((with_reducible show eid _ _ (Expr.Call (Expr.Name "range" _) [_, _] _ _) _ _ _); refine eid_range2 (b_range (by assumption)) ?_ (hg := by first | exact gl_of gl_due_range | exact glB_of (sc := defScope sdue)))
  | ((with_reducible show eid _ _ _ _ _ _); refine eid_of ?_)
  | fail)
theorem ok_due (T : T0 w K mg) : CallF P w K mg base 1 (He.ga K "_law_due") 1 [] spDue := by
  obtain ⟨fd, F⟩ := f_due T
  refine CallF.mk0 (ps := ["_law_spot"]) F (fun _ _ _ _ _ _ us hl => match us, hl with | [_], _ => rfl) (fnD_of F sc_due fun cdv A outer s H F0 μ ds Qd Ed hr hl h => ?_)
  obtain ⟨s, rfl, hs, q⟩ := h
  show sds _ _ [some (.int (s : Int)), none, none] _ _
  refine sds_cons ?_
  walk_at "pd"
  refine lcd_ix (fun μ' => μ' = μ) (((List.range 10).map fun i => decide (i = s)).map D.bl) ?_
  walk_at "pd"
  refine ⟨10, rfl, by decide, by decide, by decide, by rfl, rfl, fun _ _ => trivial, ?_, ?_⟩
  · rintro j d1 r1 μ' hd1 hr1 rfl
    rw [List.getElem?_map] at hd1
    rw [List.map_map, List.getElem?_map] at hr1
    cases hj : (List.range (10 : Int).toNat)[j]? with
    | none => rw [hj] at hd1; cases hd1
    | some i =>
      rw [hj] at hd1
      rw [show (List.range 10)[j]? = some i from hj] at hr1
      cases hd1
      cases hr1
      walk_at "pd"
      refine ⟨rfl, ?_⟩
      walk_at "pd"
      refine ⟨congrArg D.bl (decide_eq_decide.mpr (by omega)), rfl⟩
  · rintro μ' rfl
    walk_at "pd"
    have e1 : decide ((s : Int) < 7) = decide (s < 7) := decide_eq_decide.mpr (by omega)
    have e2 : decide (6 < (s : Int)) = decide (6 < s) := decide_eq_decide.mpr (by omega)
    unfold dueB at q
    rw [List.map_append] at q
    rw [e1, e2]
    exact q
end
def exv1 (K : PySem.W.Frag) (c f : Str) (v : D) : D := .exv (He.ga K c) [f] [v]
def oneL : List (Nat × Str × Str) := [(0, "InvalidRow", "word"), (0, "InvalidRow", "word"), (1, "InvalidStore", "word"), (1, "InvalidStore", "word"), (2, "InvalidText", "at"), (2, "InvalidText", "at"), (3, "InvalidEvent", "at"), (3, "InvalidEvent", "at"), (4, "Refused", "at"), (4, "Refused", "at"), (7, "NoRow", "at"), (7, "NoRow", "at"), (8, "NoDeed", "at"), (8, "NoDeed", "at"), (9, "NoEvent", "at"), (9, "NoEvent", "at")]
def oneD (K : PySem.W.Frag) (v : D) (x : Nat × Str × Str) : D := .tup [.int (x.1 : Int), exv1 K x.2.1 x.2.2 v]
def spMade (K : PySem.W.Frag) : SpD := fun ds μ Q _ => ∃ v, ds = [v] ∧ ∀ p, Q (.tup [.lst (oneL.map (oneD K v)), .ref p]) ((p, .lst (List.replicate 16 v)) :: μ)
section
abbrev N_made : List Str := ["_law_value", "_law_found", "_law_kept", "_law_spot", "_law_e", "_law_more"]
theorem sc_made : FnScope N_made ["_law_value"] (defScope smade) := ⟨rfl, rfl, rfl, by decide +kernel, rfl, by decide +kernel, by decide +kernel⟩
theorem v_made_value : Nm N_made (defScope smade) 0 "_law_value" := ⟨rfl, by decide +kernel, by decide +kernel, by decide +kernel⟩
theorem v_made_found : Nm N_made (defScope smade) 1 "_law_found" := ⟨rfl, by decide +kernel, by decide +kernel, by decide +kernel⟩
theorem v_made_kept : Nm N_made (defScope smade) 2 "_law_kept" := ⟨rfl, by decide +kernel, by decide +kernel, by decide +kernel⟩
theorem w_made_spot : NmB N_made 3 "_law_spot" := ⟨rfl, by decide +kernel, by decide +kernel⟩
theorem w_made_e : NmB N_made 4 "_law_e" := ⟨rfl, by decide +kernel, by decide +kernel⟩
theorem v_made_more : Nm N_made (defScope smade) 5 "_law_more" := ⟨rfl, by decide +kernel, by decide +kernel, by decide +kernel⟩
theorem gl_made_InvalidEvent : (defScope smade).names.lookup ("InvalidEvent" : Str) = some .globalImplicit := by decide +kernel
theorem gl_made_InvalidRow : (defScope smade).names.lookup ("InvalidRow" : Str) = some .globalImplicit := by decide +kernel
theorem gl_made_InvalidStore : (defScope smade).names.lookup ("InvalidStore" : Str) = some .globalImplicit := by decide +kernel
theorem gl_made_InvalidText : (defScope smade).names.lookup ("InvalidText" : Str) = some .globalImplicit := by decide +kernel
theorem gl_made_NoDeed : (defScope smade).names.lookup ("NoDeed" : Str) = some .globalImplicit := by decide +kernel
theorem gl_made_NoEvent : (defScope smade).names.lookup ("NoEvent" : Str) = some .globalImplicit := by decide +kernel
theorem gl_made_NoRow : (defScope smade).names.lookup ("NoRow" : Str) = some .globalImplicit := by decide +kernel
theorem gl_made_Refused : (defScope smade).names.lookup ("Refused" : Str) = some .globalImplicit := by decide +kernel
theorem sl_made_found : (defScope smade).names.lookup ("_law_found" : Str) = some .local := by decide +kernel
theorem sl_made_kept : (defScope smade).names.lookup ("_law_kept" : Str) = some .local := by decide +kernel
theorem sl_made_more : (defScope smade).names.lookup ("_law_more" : Str) = some .local := by decide +kernel
local macro_rules | `(tactic| walk_at "pd.nm") => `(tactic| first
  | ((with_reducible show ed _ (Expr.Name "_law_value" _) _ _ _); first | refine ed_nm v_made_value rfl ?_ | refine ed_nmB (sc := defScope smade) v_made_value rfl ?_)
  | ((with_reducible show ed _ (Expr.Name "_law_found" _) _ _ _); first | refine ed_nm v_made_found rfl ?_ | refine ed_nmB (sc := defScope smade) v_made_found rfl ?_)
  | ((with_reducible show ed _ (Expr.Name "_law_kept" _) _ _ _); first | refine ed_nm v_made_kept rfl ?_ | refine ed_nmB (sc := defScope smade) v_made_kept rfl ?_)
  | ((with_reducible show ed _ (Expr.Name "_law_spot" _) _ _ _); refine ed_nmC (sc := defScope smade) w_made_spot rfl ?_)
  | ((with_reducible show ed _ (Expr.Name "_law_e" _) _ _ _); refine ed_nmC (sc := defScope smade) w_made_e rfl ?_)
  | ((with_reducible show ed _ (Expr.Name "_law_more" _) _ _ _); first | refine ed_nm v_made_more rfl ?_ | refine ed_nmB (sc := defScope smade) v_made_more rfl ?_)
  | ((with_reducible show ed _ (Expr.Name "InvalidEvent" _) _ _ _); refine ed_gref (g_InvalidEvent (by assumption)) ?_ (hg := by first | exact gl_of gl_made_InvalidEvent))
  | ((with_reducible show ed _ (Expr.Name "InvalidRow" _) _ _ _); refine ed_gref (g_InvalidRow (by assumption)) ?_ (hg := by first | exact gl_of gl_made_InvalidRow))
  | ((with_reducible show ed _ (Expr.Name "InvalidStore" _) _ _ _); refine ed_gref (g_InvalidStore (by assumption)) ?_ (hg := by first | exact gl_of gl_made_InvalidStore))
  | ((with_reducible show ed _ (Expr.Name "InvalidText" _) _ _ _); refine ed_gref (g_InvalidText (by assumption)) ?_ (hg := by first | exact gl_of gl_made_InvalidText))
  | ((with_reducible show ed _ (Expr.Name "NoDeed" _) _ _ _); refine ed_gref (g_NoDeed (by assumption)) ?_ (hg := by first | exact gl_of gl_made_NoDeed))
  | ((with_reducible show ed _ (Expr.Name "NoEvent" _) _ _ _); refine ed_gref (g_NoEvent (by assumption)) ?_ (hg := by first | exact gl_of gl_made_NoEvent))
  | ((with_reducible show ed _ (Expr.Name "NoRow" _) _ _ _); refine ed_gref (g_NoRow (by assumption)) ?_ (hg := by first | exact gl_of gl_made_NoRow))
  | ((with_reducible show ed _ (Expr.Name "Refused" _) _ _ _); refine ed_gref (g_Refused (by assumption)) ?_ (hg := by first | exact gl_of gl_made_Refused))
  | fail)
local macro_rules | `(tactic| walk_at "pd.set") => `(tactic| first
  | ((with_reducible show sd _ (Stmt.Assign [Expr.Name "_law_found" _] (Expr.ListComp _ _ _ _) _) _ _ _); refine sd_setLcO (own := [("_law_spot", 3), ("_law_e", 4)]) (i := 1) rfl sc_made.nd rfl (by exact sl_made_found) (sw_true rfl (by exact sl_made_found) rfl (by decide +kernel)) (blkOk_by (N := N_made) (sc := defScope smade) (by decide +kernel)) ?_)
  | ((with_reducible show sd _ (Stmt.Assign [Expr.Name "_law_kept" _] (Expr.ListComp _ _ _ _) _) _ _ _); refine sd_setLcO (own := [("_law_spot", 3), ("_law_e", 4)]) (i := 2) rfl sc_made.nd rfl (by exact sl_made_kept) (sw_true rfl (by exact sl_made_kept) rfl (by decide +kernel)) (blkOk_by (N := N_made) (sc := defScope smade) (by decide +kernel)) ?_)
  | ((with_reducible show sd _ (Stmt.Assign [Expr.Name "_law_more" _] (Expr.ListComp _ _ _ _) _) _ _ _); refine sd_setLcO (own := [("_law_spot", 3), ("_law_e", 4)]) (i := 5) rfl sc_made.nd rfl (by exact sl_made_more) (sw_true rfl (by exact sl_made_more) rfl (by decide +kernel)) (blkOk_by (N := N_made) (sc := defScope smade) (by decide +kernel)) ?_)
  | ((with_reducible show sd _ (Stmt.Assign [Expr.Name "_law_found" _] _ _) _ _ _); refine sd_nm v_made_found sc_made.nd ?_)
  | ((with_reducible show sd _ (Stmt.Assign [Expr.Name "_law_kept" _] _ _) _ _ _); refine sd_nm v_made_kept sc_made.nd ?_)
  | ((with_reducible show sd _ (Stmt.Assign [Expr.Name "_law_more" _] _ _) _ _ _); refine sd_nm v_made_more sc_made.nd ?_)
  | fail)
local macro_rules | `(tactic| walk_at "pd.g") => `(tactic| first
  | ((with_reducible show gd _ (Expr.Name "_law_found" _) _ _ _ _); refine gd_nm v_made_found sc_made.nd ?_)
  | ((with_reducible show gd _ (Expr.Name "_law_kept" _) _ _ _ _); refine gd_nm v_made_kept sc_made.nd ?_)
  | ((with_reducible show gv _ (Expr.Name "_law_spot" _) _ _ _ _ _); refine gv_nmC (sc := defScope smade) w_made_spot sc_made.nd (by decide) ?_)
  | ((with_reducible show gv _ (Expr.Name "_law_e" _) _ _ _ _ _); refine gv_nmC (sc := defScope smade) w_made_e sc_made.nd (by decide) ?_)
  | ((with_reducible show gd _ (Expr.Name "_law_more" _) _ _ _ _); refine gd_nm v_made_more sc_made.nd ?_)
  | fail)
local macro_rules | `(tactic| walk_at "pd.call") => `(tactic| first
  | ((with_reducible show ed _ (Expr.Call (Expr.Attribute _ "extend" _) (_ :: _) _ _) _ _ _); with_reducible refine ed_bm PySem.F.plainAttrs_list PySem.F.slot_list_extend PySem.F.type_list_extend ?_)
  | fail)
local macro_rules | `(tactic| walk_at "pd.lc") => `(tactic| first
  | ((with_reducible show ed _ (Expr.ListComp _ [_] _ _) _ _ _); refine ed_lc (own := [("_law_spot", 3), ("_law_e", 4)]) [("_law_spot", 3), ("_law_e", 4)] rfl rfl sc_made.nd (blkOk_by (N := N_made) (sc := defScope smade) (by decide +kernel)) ?_)
  | fail)
local macro_rules | `(tactic| walk_at "pd.it") => `(tactic| first
  | ((with_reducible show eid _ _ _ _ _ _); refine eid_of ?_)
  | fail)
local macro_rules | `(tactic| walk_at "pd.call") => `(tactic| first
  | ((with_reducible show ed _ (Expr.Call (Expr.Name "InvalidRow" _) [_] [] _) _ _ _); refine ed_excV (xv_InvalidRow (by assumption)) (by assumption) (by decide) (g_InvalidRow (by assumption)) ?_ (hg := by exact gl_of gl_made_InvalidRow))
  | ((with_reducible show ed _ (Expr.Call (Expr.Name "InvalidRow" _) [] [_] _) _ _ _); refine ed_excK (xv_InvalidRow (by assumption)) (by assumption) (by decide) (g_InvalidRow (by assumption)) ?_ (hg := by exact gl_of gl_made_InvalidRow))
  | ((with_reducible show ed _ (Expr.Call (Expr.Name "InvalidStore" _) [_] [] _) _ _ _); refine ed_excV (xv_InvalidStore (by assumption)) (by assumption) (by decide) (g_InvalidStore (by assumption)) ?_ (hg := by exact gl_of gl_made_InvalidStore))
  | ((with_reducible show ed _ (Expr.Call (Expr.Name "InvalidStore" _) [] [_] _) _ _ _); refine ed_excK (xv_InvalidStore (by assumption)) (by assumption) (by decide) (g_InvalidStore (by assumption)) ?_ (hg := by exact gl_of gl_made_InvalidStore))
  | ((with_reducible show ed _ (Expr.Call (Expr.Name "InvalidText" _) [_] [] _) _ _ _); refine ed_excV (xv_InvalidText (by assumption)) (by assumption) (by decide) (g_InvalidText (by assumption)) ?_ (hg := by exact gl_of gl_made_InvalidText))
  | ((with_reducible show ed _ (Expr.Call (Expr.Name "InvalidText" _) [] [_] _) _ _ _); refine ed_excK (xv_InvalidText (by assumption)) (by assumption) (by decide) (g_InvalidText (by assumption)) ?_ (hg := by exact gl_of gl_made_InvalidText))
  | ((with_reducible show ed _ (Expr.Call (Expr.Name "InvalidEvent" _) [_] [] _) _ _ _); refine ed_excV (xv_InvalidEvent (by assumption)) (by assumption) (by decide) (g_InvalidEvent (by assumption)) ?_ (hg := by exact gl_of gl_made_InvalidEvent))
  | ((with_reducible show ed _ (Expr.Call (Expr.Name "InvalidEvent" _) [] [_] _) _ _ _); refine ed_excK (xv_InvalidEvent (by assumption)) (by assumption) (by decide) (g_InvalidEvent (by assumption)) ?_ (hg := by exact gl_of gl_made_InvalidEvent))
  | ((with_reducible show ed _ (Expr.Call (Expr.Name "Refused" _) [_] [] _) _ _ _); refine ed_excV (xv_Refused (by assumption)) (by assumption) (by decide) (g_Refused (by assumption)) ?_ (hg := by exact gl_of gl_made_Refused))
  | ((with_reducible show ed _ (Expr.Call (Expr.Name "Refused" _) [] [_] _) _ _ _); refine ed_excK (xv_Refused (by assumption)) (by assumption) (by decide) (g_Refused (by assumption)) ?_ (hg := by exact gl_of gl_made_Refused))
  | ((with_reducible show ed _ (Expr.Call (Expr.Name "NoRow" _) [_] [] _) _ _ _); refine ed_excV (xv_NoRow (by assumption)) (by assumption) (by decide) (g_NoRow (by assumption)) ?_ (hg := by exact gl_of gl_made_NoRow))
  | ((with_reducible show ed _ (Expr.Call (Expr.Name "NoRow" _) [] [_] _) _ _ _); refine ed_excK (xv_NoRow (by assumption)) (by assumption) (by decide) (g_NoRow (by assumption)) ?_ (hg := by exact gl_of gl_made_NoRow))
  | ((with_reducible show ed _ (Expr.Call (Expr.Name "NoDeed" _) [_] [] _) _ _ _); refine ed_excV (xv_NoDeed (by assumption)) (by assumption) (by decide) (g_NoDeed (by assumption)) ?_ (hg := by exact gl_of gl_made_NoDeed))
  | ((with_reducible show ed _ (Expr.Call (Expr.Name "NoDeed" _) [] [_] _) _ _ _); refine ed_excK (xv_NoDeed (by assumption)) (by assumption) (by decide) (g_NoDeed (by assumption)) ?_ (hg := by exact gl_of gl_made_NoDeed))
  | ((with_reducible show ed _ (Expr.Call (Expr.Name "NoEvent" _) [_] [] _) _ _ _); refine ed_excV (xv_NoEvent (by assumption)) (by assumption) (by decide) (g_NoEvent (by assumption)) ?_ (hg := by exact gl_of gl_made_NoEvent))
  | ((with_reducible show ed _ (Expr.Call (Expr.Name "NoEvent" _) [] [_] _) _ _ _); refine ed_excK (xv_NoEvent (by assumption)) (by assumption) (by decide) (g_NoEvent (by assumption)) ?_ (hg := by exact gl_of gl_made_NoEvent)))
theorem ok_made (T : T0 w K mg) : CallF P w K mg base 3 (He.ga K "_law_made") 1 [] (spMade K) := by
  obtain ⟨fd, F⟩ := f_made T
  refine CallF.mk0 (ps := ["_law_value"]) F (fun _ _ _ _ _ _ us hl => match us, hl with | [_], _ => rfl) (fnD_of F sc_made fun cdv A outer s H F0 μ ds Qd Ed hr hl h => ?_)
  obtain ⟨v, rfl, q⟩ := h
  show sds _ _ [some v, none, none, none, none, none] _ _
  refine sds_cons ?_
  walk_at "pd"
  refine lcd_ix (fun μ' => μ' = μ) (List.replicate 4 v) ?_
  walk_at "pd"
  refine ⟨by show 4 ≤ 1000000; decide, by rfl, rfl, fun _ _ => trivial, ?_, ?_⟩
  · rintro j d1 r1 μ' hd1 hr1 rfl
    obtain rfl : r1 = v := (List.mem_replicate.mp (List.mem_of_getElem? hr1)).2
    have hm := List.mem_of_getElem? hd1
    rcases List.mem_cons.mp hm with rfl | hm
    · walk_at "pd"
      refine ⟨rfl, ?_⟩
      walk_at "pd"
      refine ed_xfV (xfC_of (xc_InvalidRow T)) (xn_InvalidRow T) ?_
      walk_at "pd"
      exact ⟨["word"], [r1], r1, rfl, rfl, rfl, rfl⟩
    rcases List.mem_cons.mp hm with rfl | hm
    · walk_at "pd"
      refine ⟨rfl, ?_⟩
      walk_at "pd"
      refine ed_xfV (xfC_of (xc_InvalidRow T)) (xn_InvalidRow T) ?_
      walk_at "pd"
      exact ⟨["word"], [r1], r1, rfl, rfl, rfl, rfl⟩
    rcases List.mem_cons.mp hm with rfl | hm
    · walk_at "pd"
      refine ⟨rfl, ?_⟩
      walk_at "pd"
      refine ed_xfV (xfC_of (xc_InvalidStore T)) (xn_InvalidStore T) ?_
      walk_at "pd"
      exact ⟨["word"], [r1], r1, rfl, rfl, rfl, rfl⟩
    obtain rfl := List.mem_singleton.mp hm
    walk_at "pd"
    refine ⟨rfl, ?_⟩
    walk_at "pd"
    refine ed_xfV (xfC_of (xc_InvalidStore T)) (xn_InvalidStore T) ?_
    walk_at "pd"
    exact ⟨["word"], [r1], r1, rfl, rfl, rfl, rfl⟩
  rintro μ' rfl p
  walk_at "pd"
  refine lcd_ix (fun μ2 => μ2 = (p, Cell.lst (List.replicate 4 v)) :: μ') (List.replicate 12 v) ?_
  walk_at "pd"
  refine ⟨by show 12 ≤ 1000000; decide, by rfl, rfl, fun _ _ => trivial, ?_, ?_⟩
  · rintro j d1 r1 μ2 hd1 hr1 rfl
    obtain rfl : r1 = v := (List.mem_replicate.mp (List.mem_of_getElem? hr1)).2
    have hm := List.mem_of_getElem? hd1
    rcases List.mem_cons.mp hm with rfl | hm
    · walk_at "pd"
      refine ⟨rfl, ?_⟩
      walk_at "pd"
      refine ed_xfV (xfC_of (xc_InvalidText T)) (xn_InvalidText T) ?_
      walk_at "pd"
      exact ⟨["at"], [r1], r1, rfl, rfl, rfl, rfl⟩
    rcases List.mem_cons.mp hm with rfl | hm
    · walk_at "pd"
      refine ⟨rfl, ?_⟩
      walk_at "pd"
      refine ed_xfV (xfC_of (xc_InvalidText T)) (xn_InvalidText T) ?_
      walk_at "pd"
      exact ⟨["at"], [r1], r1, rfl, rfl, rfl, rfl⟩
    rcases List.mem_cons.mp hm with rfl | hm
    · walk_at "pd"
      refine ⟨rfl, ?_⟩
      walk_at "pd"
      refine ed_xfV (xfC_of (xc_InvalidEvent T)) (xn_InvalidEvent T) ?_
      walk_at "pd"
      exact ⟨["at"], [r1], r1, rfl, rfl, rfl, rfl⟩
    rcases List.mem_cons.mp hm with rfl | hm
    · walk_at "pd"
      refine ⟨rfl, ?_⟩
      walk_at "pd"
      refine ed_xfV (xfC_of (xc_InvalidEvent T)) (xn_InvalidEvent T) ?_
      walk_at "pd"
      exact ⟨["at"], [r1], r1, rfl, rfl, rfl, rfl⟩
    rcases List.mem_cons.mp hm with rfl | hm
    · walk_at "pd"
      refine ⟨rfl, ?_⟩
      walk_at "pd"
      refine ed_xfV (xfC_of (xc_Refused T)) (xn_Refused T) ?_
      walk_at "pd"
      exact ⟨["at"], [r1], r1, rfl, rfl, rfl, rfl⟩
    rcases List.mem_cons.mp hm with rfl | hm
    · walk_at "pd"
      refine ⟨rfl, ?_⟩
      walk_at "pd"
      refine ed_xfV (xfC_of (xc_Refused T)) (xn_Refused T) ?_
      walk_at "pd"
      exact ⟨["at"], [r1], r1, rfl, rfl, rfl, rfl⟩
    rcases List.mem_cons.mp hm with rfl | hm
    · walk_at "pd"
      refine ⟨rfl, ?_⟩
      walk_at "pd"
      refine ed_xfV (xfC_of (xc_NoRow T)) (xn_NoRow T) ?_
      walk_at "pd"
      exact ⟨["at"], [r1], r1, rfl, rfl, rfl, rfl⟩
    rcases List.mem_cons.mp hm with rfl | hm
    · walk_at "pd"
      refine ⟨rfl, ?_⟩
      walk_at "pd"
      refine ed_xfV (xfC_of (xc_NoRow T)) (xn_NoRow T) ?_
      walk_at "pd"
      exact ⟨["at"], [r1], r1, rfl, rfl, rfl, rfl⟩
    rcases List.mem_cons.mp hm with rfl | hm
    · walk_at "pd"
      refine ⟨rfl, ?_⟩
      walk_at "pd"
      refine ed_xfV (xfC_of (xc_NoDeed T)) (xn_NoDeed T) ?_
      walk_at "pd"
      exact ⟨["at"], [r1], r1, rfl, rfl, rfl, rfl⟩
    rcases List.mem_cons.mp hm with rfl | hm
    · walk_at "pd"
      refine ⟨rfl, ?_⟩
      walk_at "pd"
      refine ed_xfV (xfC_of (xc_NoDeed T)) (xn_NoDeed T) ?_
      walk_at "pd"
      exact ⟨["at"], [r1], r1, rfl, rfl, rfl, rfl⟩
    rcases List.mem_cons.mp hm with rfl | hm
    · walk_at "pd"
      refine ⟨rfl, ?_⟩
      walk_at "pd"
      refine ed_xfV (xfC_of (xc_NoEvent T)) (xn_NoEvent T) ?_
      walk_at "pd"
      exact ⟨["at"], [r1], r1, rfl, rfl, rfl, rfl⟩
    obtain rfl := List.mem_singleton.mp hm
    walk_at "pd"
    refine ⟨rfl, ?_⟩
    walk_at "pd"
    refine ed_xfV (xfC_of (xc_NoEvent T)) (xn_NoEvent T) ?_
    walk_at "pd"
    exact ⟨["at"], [r1], r1, rfl, rfl, rfl, rfl⟩
  rintro μ2 rfl
  walk_at "pd"
  refine mtd_extend (μ1 := []) (Nat.le_of_lt (lt_line (by simp))) ?_
  walk_at "pd"
  exact q p
end
end
section
variable {P : Program} {w : World} {K : PySem.W.Frag} {mg : Str → Option Value} {base : Heap}
/-! ### the law k01 -/
def RepT (d : D) (t : Str) : Prop := ∀ (Γ : Ct) (δ : Dl) (μ : Mu) (Q : D → Mu → Prop) (k : Nat), PD.Room k Γ.X.A → Q (.str t) μ → cld Γ (.builtin "repr") [d] δ μ Q
def valsL : List D := [.int 0, .int (-3), .str "lost", .str "", .non, .lst [.int 1, .int 2], .tup [.str "at", .int 7], .int (10 ^ 30), .bl true]
theorem rep_int {i : Int} (h : i.natAbs.log2 < 1920) : RepT (.int i) (Str.ofString (toString i)) := fun Γ δ μ Q k hr q => cld_reprI h q
theorem rep_str {x : Str} (h : (reprText x).length ≤ sizeLine) : RepT (.str x) (reprText x) := fun Γ δ μ Q k hr q => cld_repr_str h q
theorem rep_all : ∀ d ∈ valsL, ∃ t, RepT d t := by
  intro d hd
  unfold valsL at hd
  rcases List.mem_cons.mp hd with rfl | hd
  · exact ⟨_, rep_int (by decide +kernel)⟩
  rcases List.mem_cons.mp hd with rfl | hd
  · exact ⟨_, rep_int (by decide +kernel)⟩
  rcases List.mem_cons.mp hd with rfl | hd
  · exact ⟨_, rep_str (by decide +kernel)⟩
  rcases List.mem_cons.mp hd with rfl | hd
  · exact ⟨_, rep_str (by decide +kernel)⟩
  rcases List.mem_cons.mp hd with rfl | hd
  · exact ⟨_, fun Γ δ μ Q k hr q => cld_repr_none q⟩
  rcases List.mem_cons.mp hd with rfl | hd
  · exact ⟨_, fun Γ δ μ Q k hr q => cld_reprS hr (p := .list [.int 1, .int 2]) (by simp [pyD, pyDs]) (.inr (.inl ⟨_, rfl⟩)) (by decide +kernel) (by decide +kernel) (by decide +kernel) q⟩
  rcases List.mem_cons.mp hd with rfl | hd
  · exact ⟨_, fun Γ δ μ Q k hr q => cld_reprS hr (p := .tuple [.str "at", .int 7]) (by simp [pyD, pyDs]) (.inl ⟨_, rfl⟩) (by decide +kernel) (by decide +kernel) (by decide +kernel) q⟩
  rcases List.mem_cons.mp hd with rfl | hd
  · exact ⟨_, rep_int (by decide +kernel)⟩
  · rw [List.mem_singleton.mp hd]
    exact ⟨_, fun Γ δ μ Q k hr q => cld_repr_bl q⟩
theorem oks_bls : ∀ l : List Bool, D.oks (l.map .bl) = true
  | [] => by rw [List.map_nil, D.oks]
  | t :: l => by rw [List.map_cons, D.oks, D.ok, oks_bls l]; rfl
theorem depthAll_bls : ∀ l : List Bool, PyData.depthAll (D.pys (l.map .bl)) ≤ 1
  | [] => by rw [List.map_nil, D.pys, PyData.depthAll]; omega
  | z :: l => by
    have := depthAll_bls l
    rw [List.map_cons, D.pys, D.py, PyData.depthAll, PyData.depth]; omega
theorem bls_ok (l : List Bool) : (D.lst (l.map .bl)).ok = true ∧ (D.lst (l.map .bl)).py.depth ≤ 64 := by
  have := depthAll_bls l
  exact ⟨by rw [D.ok]; exact oks_bls l, by rw [D.py, PyData.depth]; omega⟩
theorem eqAll_bls : ∀ (a b : List Bool), PyData.eqvAll (D.pys (a.map .bl)) (D.pys (b.map .bl)) = decide (a = b)
  | [], [] => by rw [List.map_nil, D.pys, PyData.eqvAll]; rfl
  | [], y :: b => by rw [List.map_nil, List.map_cons, D.pys, D.pys, PyData.eqvAll]; rfl
  | x :: a, [] => by rw [List.map_nil, List.map_cons, D.pys, D.pys, PyData.eqvAll]; rfl
  | x :: a, y :: b => by
    rw [List.map_cons, List.map_cons, D.pys, D.pys, D.py, D.py, PyData.eqvAll, PyData.eqv, eqAll_bls a b]
    by_cases e : x = y
    · subst e; simp
    · have : (x == y) = false := by simpa using e
      rw [this, decide_eq_false (fun h => e (List.cons.inj h).1)]; rfl
theorem eqD_bls (a b : List Bool) : eqD (.lst (a.map .bl)) (.lst (b.map .bl)) = decide (a = b) := by
  unfold eqD; rw [D.py, D.py, PyData.eqv, eqAll_bls]
theorem one_all (T : T0 w K mg) : ∀ x ∈ oneL, x.1 ≤ 9 ∧ ∃ b0 b1 b2 b3 b4 b5 b6 b7 b8 b9 b10 b11 b12, ExcB K (He.ga K x.2.1) b0 b1 b2 b3 b4 b5 b6 b7 b8 b9 b10 b11 b12 ∧ [b0, b1, b2, b3, b4, b5, b6, b7, b8, b9, b10, b11, b12] = dueB x.1 := by
  intro x hx
  unfold oneL at hx
  rcases List.mem_cons.mp hx with rfl | hx
  · exact ⟨by decide, _, _, _, _, _, _, _, _, _, _, _, _, _, eb_InvalidRow T, by decide⟩
  rcases List.mem_cons.mp hx with rfl | hx
  · exact ⟨by decide, _, _, _, _, _, _, _, _, _, _, _, _, _, eb_InvalidRow T, by decide⟩
  rcases List.mem_cons.mp hx with rfl | hx
  · exact ⟨by decide, _, _, _, _, _, _, _, _, _, _, _, _, _, eb_InvalidStore T, by decide⟩
  rcases List.mem_cons.mp hx with rfl | hx
  · exact ⟨by decide, _, _, _, _, _, _, _, _, _, _, _, _, _, eb_InvalidStore T, by decide⟩
  rcases List.mem_cons.mp hx with rfl | hx
  · exact ⟨by decide, _, _, _, _, _, _, _, _, _, _, _, _, _, eb_InvalidText T, by decide⟩
  rcases List.mem_cons.mp hx with rfl | hx
  · exact ⟨by decide, _, _, _, _, _, _, _, _, _, _, _, _, _, eb_InvalidText T, by decide⟩
  rcases List.mem_cons.mp hx with rfl | hx
  · exact ⟨by decide, _, _, _, _, _, _, _, _, _, _, _, _, _, eb_InvalidEvent T, by decide⟩
  rcases List.mem_cons.mp hx with rfl | hx
  · exact ⟨by decide, _, _, _, _, _, _, _, _, _, _, _, _, _, eb_InvalidEvent T, by decide⟩
  rcases List.mem_cons.mp hx with rfl | hx
  · exact ⟨by decide, _, _, _, _, _, _, _, _, _, _, _, _, _, eb_Refused T, by decide⟩
  rcases List.mem_cons.mp hx with rfl | hx
  · exact ⟨by decide, _, _, _, _, _, _, _, _, _, _, _, _, _, eb_Refused T, by decide⟩
  rcases List.mem_cons.mp hx with rfl | hx
  · exact ⟨by decide, _, _, _, _, _, _, _, _, _, _, _, _, _, eb_NoRow T, by decide⟩
  rcases List.mem_cons.mp hx with rfl | hx
  · exact ⟨by decide, _, _, _, _, _, _, _, _, _, _, _, _, _, eb_NoRow T, by decide⟩
  rcases List.mem_cons.mp hx with rfl | hx
  · exact ⟨by decide, _, _, _, _, _, _, _, _, _, _, _, _, _, eb_NoDeed T, by decide⟩
  rcases List.mem_cons.mp hx with rfl | hx
  · exact ⟨by decide, _, _, _, _, _, _, _, _, _, _, _, _, _, eb_NoDeed T, by decide⟩
  rcases List.mem_cons.mp hx with rfl | hx
  · exact ⟨by decide, _, _, _, _, _, _, _, _, _, _, _, _, _, eb_NoEvent T, by decide⟩
  rw [List.mem_singleton.mp hx]
  exact ⟨by decide, _, _, _, _, _, _, _, _, _, _, _, _, _, eb_NoEvent T, by decide⟩
section
abbrev N_law : List Str := ["_law_script", "_law_deal_here", "_law_turn", "_law_value", "_law_made_here", "_law_kept", "_law_one", "_law_spot", "_law_e"]
theorem sc_law : FnScope N_law ["_law_script"] (defScope slaw) := ⟨rfl, rfl, rfl, by decide +kernel, rfl, by decide +kernel, by decide +kernel⟩
theorem v_law_script : Nm N_law (defScope slaw) 0 "_law_script" := ⟨rfl, by decide +kernel, by decide +kernel, by decide +kernel⟩
theorem v_law_deal_here : Nm N_law (defScope slaw) 1 "_law_deal_here" := ⟨rfl, by decide +kernel, by decide +kernel, by decide +kernel⟩
theorem v_law_turn : Nm N_law (defScope slaw) 2 "_law_turn" := ⟨rfl, by decide +kernel, by decide +kernel, by decide +kernel⟩
theorem v_law_value : Nm N_law (defScope slaw) 3 "_law_value" := ⟨rfl, by decide +kernel, by decide +kernel, by decide +kernel⟩
theorem v_law_made_here : Nm N_law (defScope slaw) 4 "_law_made_here" := ⟨rfl, by decide +kernel, by decide +kernel, by decide +kernel⟩
theorem v_law_kept : Nm N_law (defScope slaw) 5 "_law_kept" := ⟨rfl, by decide +kernel, by decide +kernel, by decide +kernel⟩
theorem w_law_one : NmB N_law 6 "_law_one" := ⟨rfl, by decide +kernel, by decide +kernel⟩
theorem w_law_spot : NmB N_law 7 "_law_spot" := ⟨rfl, by decide +kernel, by decide +kernel⟩
theorem w_law_e : NmB N_law 8 "_law_e" := ⟨rfl, by decide +kernel, by decide +kernel⟩
theorem gl_law_EndError : (defScope slaw).names.lookup ("EndError" : Str) = some .globalImplicit := by decide +kernel
theorem gl_law_InvalidCommand : (defScope slaw).names.lookup ("InvalidCommand" : Str) = some .globalImplicit := by decide +kernel
theorem gl_law_InvalidGoal : (defScope slaw).names.lookup ("InvalidGoal" : Str) = some .globalImplicit := by decide +kernel
theorem gl_law_bases : (defScope slaw).names.lookup ("_law_bases" : Str) = some .globalImplicit := by decide +kernel
theorem gl_law_deal : (defScope slaw).names.lookup ("_law_deal" : Str) = some .globalImplicit := by decide +kernel
theorem gl_law_due : (defScope slaw).names.lookup ("_law_due" : Str) = some .globalImplicit := by decide +kernel
theorem gl_law_made : (defScope slaw).names.lookup ("_law_made" : Str) = some .globalImplicit := by decide +kernel
theorem gl_law_pick : (defScope slaw).names.lookup ("_law_pick" : Str) = some .globalImplicit := by decide +kernel
theorem gl_law_range : (defScope slaw).names.lookup ("range" : Str) = some .globalImplicit := by decide +kernel
theorem sl_law_deal_here : (defScope slaw).names.lookup ("_law_deal_here" : Str) = some .local := by decide +kernel
theorem sl_law_turn : (defScope slaw).names.lookup ("_law_turn" : Str) = some .local := by decide +kernel
-- _law_value is a cell
theorem sl_law_made_here : (defScope slaw).names.lookup ("_law_made_here" : Str) = some .local := by decide +kernel
theorem sl_law_kept : (defScope slaw).names.lookup ("_law_kept" : Str) = some .local := by decide +kernel
local macro_rules | `(tactic| walk_at "pd.nm") => `(tactic| first
  | ((with_reducible show ed _ (Expr.Name "_law_script" _) _ _ _); first | refine ed_nm v_law_script rfl ?_ | refine ed_nmB (sc := defScope slaw) v_law_script rfl ?_)
  | ((with_reducible show ed _ (Expr.Name "_law_deal_here" _) _ _ _); first | refine ed_nm v_law_deal_here rfl ?_ | refine ed_nmB (sc := defScope slaw) v_law_deal_here rfl ?_)
  | ((with_reducible show ed _ (Expr.Name "_law_turn" _) _ _ _); first | refine ed_nm v_law_turn rfl ?_ | refine ed_nmB (sc := defScope slaw) v_law_turn rfl ?_)
  | ((with_reducible show ed _ (Expr.Name "_law_value" _) _ _ _); first | refine ed_nm v_law_value rfl ?_ | refine ed_nmB (sc := defScope slaw) v_law_value rfl ?_)
  | ((with_reducible show ed _ (Expr.Name "_law_made_here" _) _ _ _); first | refine ed_nm v_law_made_here rfl ?_ | refine ed_nmB (sc := defScope slaw) v_law_made_here rfl ?_)
  | ((with_reducible show ed _ (Expr.Name "_law_kept" _) _ _ _); first | refine ed_nm v_law_kept rfl ?_ | refine ed_nmB (sc := defScope slaw) v_law_kept rfl ?_)
  | ((with_reducible show ed _ (Expr.Name "_law_one" _) _ _ _); refine ed_nmC (sc := defScope slaw) w_law_one rfl ?_)
  | ((with_reducible show ed _ (Expr.Name "_law_spot" _) _ _ _); refine ed_nmC (sc := defScope slaw) w_law_spot rfl ?_)
  | ((with_reducible show ed _ (Expr.Name "_law_e" _) _ _ _); refine ed_nmC (sc := defScope slaw) w_law_e rfl ?_)
  | ((with_reducible show ed _ (Expr.Name "EndError" _) _ _ _); refine ed_gref (g_EndError (by assumption)) ?_ (hg := by first | exact gl_of gl_law_EndError))
  | ((with_reducible show ed _ (Expr.Name "InvalidCommand" _) _ _ _); refine ed_gref (g_InvalidCommand (by assumption)) ?_ (hg := by first | exact gl_of gl_law_InvalidCommand))
  | ((with_reducible show ed _ (Expr.Name "InvalidGoal" _) _ _ _); refine ed_gref (g_InvalidGoal (by assumption)) ?_ (hg := by first | exact gl_of gl_law_InvalidGoal))
  | ((with_reducible show ed _ (Expr.Name "range" _) _ _ _); refine ed_ty (n := "range") (b_range (by assumption)) bb_range ?_ (hg := by first | exact gl_of gl_law_range))
  | fail)
local macro_rules | `(tactic| walk_at "pd.set") => `(tactic| first
  | ((with_reducible show sd _ (Stmt.Assign [Expr.Name "_law_deal_here" _] (Expr.ListComp _ _ _ _) _) _ _ _); refine sd_setLc (own := [("_law_one", 6)]) (i := 1) rfl sc_law.nd rfl (by exact sl_law_deal_here) (sw_true rfl (by exact sl_law_deal_here) rfl (by decide +kernel)) (blkOk_by (N := N_law) (sc := defScope slaw) (by decide +kernel)) ?_)
  | ((with_reducible show sd _ (Stmt.Assign [Expr.Name "_law_deal_here" _] (Expr.ListComp _ _ _ _) _) _ _ _); refine sd_setLc (own := [("_law_spot", 7), ("_law_e", 8)]) (i := 1) rfl sc_law.nd rfl (by exact sl_law_deal_here) (sw_true rfl (by exact sl_law_deal_here) rfl (by decide +kernel)) (blkOk_by (N := N_law) (sc := defScope slaw) (by decide +kernel)) ?_)
  | ((with_reducible show sd _ (Stmt.Assign [Expr.Name "_law_turn" _] (Expr.ListComp _ _ _ _) _) _ _ _); refine sd_setLc (own := [("_law_one", 6)]) (i := 2) rfl sc_law.nd rfl (by exact sl_law_turn) (sw_true rfl (by exact sl_law_turn) rfl (by decide +kernel)) (blkOk_by (N := N_law) (sc := defScope slaw) (by decide +kernel)) ?_)
  | ((with_reducible show sd _ (Stmt.Assign [Expr.Name "_law_turn" _] (Expr.ListComp _ _ _ _) _) _ _ _); refine sd_setLc (own := [("_law_spot", 7), ("_law_e", 8)]) (i := 2) rfl sc_law.nd rfl (by exact sl_law_turn) (sw_true rfl (by exact sl_law_turn) rfl (by decide +kernel)) (blkOk_by (N := N_law) (sc := defScope slaw) (by decide +kernel)) ?_)
  | ((with_reducible show sd _ (Stmt.Assign [Expr.Name "_law_made_here" _] (Expr.ListComp _ _ _ _) _) _ _ _); refine sd_setLc (own := [("_law_one", 6)]) (i := 4) rfl sc_law.nd rfl (by exact sl_law_made_here) (sw_true rfl (by exact sl_law_made_here) rfl (by decide +kernel)) (blkOk_by (N := N_law) (sc := defScope slaw) (by decide +kernel)) ?_)
  | ((with_reducible show sd _ (Stmt.Assign [Expr.Name "_law_made_here" _] (Expr.ListComp _ _ _ _) _) _ _ _); refine sd_setLc (own := [("_law_spot", 7), ("_law_e", 8)]) (i := 4) rfl sc_law.nd rfl (by exact sl_law_made_here) (sw_true rfl (by exact sl_law_made_here) rfl (by decide +kernel)) (blkOk_by (N := N_law) (sc := defScope slaw) (by decide +kernel)) ?_)
  | ((with_reducible show sd _ (Stmt.Assign [Expr.Name "_law_kept" _] (Expr.ListComp _ _ _ _) _) _ _ _); refine sd_setLc (own := [("_law_one", 6)]) (i := 5) rfl sc_law.nd rfl (by exact sl_law_kept) (sw_true rfl (by exact sl_law_kept) rfl (by decide +kernel)) (blkOk_by (N := N_law) (sc := defScope slaw) (by decide +kernel)) ?_)
  | ((with_reducible show sd _ (Stmt.Assign [Expr.Name "_law_kept" _] (Expr.ListComp _ _ _ _) _) _ _ _); refine sd_setLc (own := [("_law_spot", 7), ("_law_e", 8)]) (i := 5) rfl sc_law.nd rfl (by exact sl_law_kept) (sw_true rfl (by exact sl_law_kept) rfl (by decide +kernel)) (blkOk_by (N := N_law) (sc := defScope slaw) (by decide +kernel)) ?_)
  | ((with_reducible show sd _ (Stmt.Assign [Expr.Name "_law_deal_here" _] _ _) _ _ _); refine sd_nm v_law_deal_here sc_law.nd ?_)
  | ((with_reducible show sd _ (Stmt.Assign [Expr.Name "_law_turn" _] _ _) _ _ _); refine sd_nm v_law_turn sc_law.nd ?_)
  | ((with_reducible show sd _ (Stmt.Assign [Expr.Name "_law_value" _] _ _) _ _ _); refine sd_nm v_law_value sc_law.nd ?_)
  | ((with_reducible show sd _ (Stmt.Assign [Expr.Name "_law_made_here" _] _ _) _ _ _); refine sd_nm v_law_made_here sc_law.nd ?_)
  | ((with_reducible show sd _ (Stmt.Assign [Expr.Name "_law_kept" _] _ _) _ _ _); refine sd_nm v_law_kept sc_law.nd ?_)
  | fail)
local macro_rules | `(tactic| walk_at "pd.g") => `(tactic| first
  | ((with_reducible show gd _ (Expr.Name "_law_deal_here" _) _ _ _ _); refine gd_nm v_law_deal_here sc_law.nd ?_)
  | ((with_reducible show gd _ (Expr.Name "_law_turn" _) _ _ _ _); refine gd_nm v_law_turn sc_law.nd ?_)
  | ((with_reducible show gd _ (Expr.Name "_law_value" _) _ _ _ _); refine gd_nm v_law_value sc_law.nd ?_)
  | ((with_reducible show gd _ (Expr.Name "_law_made_here" _) _ _ _ _); refine gd_nm v_law_made_here sc_law.nd ?_)
  | ((with_reducible show gd _ (Expr.Name "_law_kept" _) _ _ _ _); refine gd_nm v_law_kept sc_law.nd ?_)
  | ((with_reducible show gv _ (Expr.Name "_law_one" _) _ _ _ _ _); refine gv_nmC (sc := defScope slaw) w_law_one sc_law.nd (by decide) ?_)
  | ((with_reducible show gv _ (Expr.Name "_law_spot" _) _ _ _ _ _); refine gv_nmC (sc := defScope slaw) w_law_spot sc_law.nd (by decide) ?_)
  | ((with_reducible show gv _ (Expr.Name "_law_e" _) _ _ _ _ _); refine gv_nmC (sc := defScope slaw) w_law_e sc_law.nd (by decide) ?_)
  | fail)
local macro_rules | `(tactic| walk_at "pd.call") => `(tactic| first
  | ((with_reducible show ed _ (Expr.Call (Expr.Name "_law_deal" _) (_ :: _) _ _) _ _ _); refine ed_callC ((ok_deal (by assumption)).at_ _) (by assumption) (by decide) (g_deal (by assumption)) ?_ (hg := by first | exact gl_of gl_law_deal))
  | ((with_reducible show ed _ (Expr.Call (Expr.Name "_law_pick" _) (_ :: _) _ _) _ _ _); refine ed_callC ((ok_pick (by assumption)).at_ _) (by assumption) (by decide) (g_pick (by assumption)) ?_ (hg := by first | exact gl_of gl_law_pick))
  | ((with_reducible show ed _ (Expr.Call (Expr.Name "_law_made" _) (_ :: _) _ _) _ _ _); refine ed_callC ((ok_made (by assumption)).at_ _) (by assumption) (by decide) (g_made (by assumption)) ?_ (hg := by first | exact gl_of gl_law_made))
  | ((with_reducible show ed _ (Expr.Call (Expr.Name "_law_bases" _) (_ :: _) _ _) _ _ _); refine ed_callC ((ok_bases (by assumption)).at_ _) (by assumption) (by decide) (g_bases (by assumption)) ?_ (hg := by first | exact gl_of gl_law_bases | exact glB_of (sc := defScope slaw)))
  | ((with_reducible show ed _ (Expr.Call (Expr.Name "_law_due" _) (_ :: _) _ _) _ _ _); refine ed_callC ((ok_due (by assumption)).at_ _) (by assumption) (by decide) (g_due (by assumption)) ?_ (hg := by first | exact gl_of gl_law_due | exact glB_of (sc := defScope slaw)))
  | ((with_reducible show ed _ (Expr.Call (Expr.Name "repr" _) (_ :: _) _ _) _ _ _); refine ed_callB (id := "repr") (b_repr (by assumption)) bb_repr ?_ (hg := by first | exact glB_of (sc := defScope slaw)))
  | fail)
local macro_rules | `(tactic| walk_at "pd.lc") => `(tactic| first
  | ((with_reducible show ed _ (Expr.ListComp _ [_] _ _) _ _ _); refine ed_lc (own := [("_law_one", 6)]) [("_law_one", 6)] rfl rfl sc_law.nd (blkOk_by (N := N_law) (sc := defScope slaw) (by decide +kernel)) ?_)
  | ((with_reducible show ed _ (Expr.ListComp _ [_] _ _) _ _ _); refine ed_lc (own := [("_law_spot", 7), ("_law_e", 8)]) [("_law_spot", 7), ("_law_e", 8)] rfl rfl sc_law.nd (blkOk_by (N := N_law) (sc := defScope slaw) (by decide +kernel)) ?_)
  | fail)
local macro_rules | `(tactic| walk_at "pd.it") => `(tactic| first
  | ((with_reducible show eid _ _ (Expr.Call (Expr.Name "range" _) [_] _ _) _ _ _); refine eid_range (b_range (by assumption)) ?_ (hg := by first | exact gl_of gl_law_range))
  | ((with_reducible show eid _ _ (Expr.Call (Expr.Name "range" _) [_, _] _ _) _ _ _); refine eid_range2 (b_range (by assumption)) ?_ (hg := by first | exact gl_of gl_law_range))
  | ((with_reducible show eid _ _ _ _ _ _); refine eid_of ?_)
  | fail)
theorem ok_law (T : T0 w K mg) {fd : FuncData} (F : FunD K "law" "law" (defArgs slaw) (defBody slaw) (defScope slaw) (dlaw.dvs K) (dlaw.kws K) (He.fAd K dlaw.at_) fd) : FnD false P w K mg base 10 (He.ga K "law") fd ["_law_script"] spLaw := by
  refine fnD_of F sc_law fun cdv A outer s H F0 μ ds Qd Ed hr hl h => ?_
  obtain ⟨ns, rfl, rfl, hn, -, q⟩ := h
  have hu := hr.units
  have hu0 := Nat.lt_of_le_of_lt (Nat.le_add_right _ 64) hr.units
  show sds _ _ (some (.rl (ns.map .int)) :: List.replicate 8 none) _ _
  refine sds_cons ?_
  walk_at "pd"
  refine ⟨ns, 0, rfl, by decide, by decide, hn, fun p q' μ1 hD => ?_⟩
  walk_at "pdS"
  refine sds_cons ?_
  refine sd_for rfl ?_
  walk_at "pd"
  refine ⟨3, rfl, by decide, by decide, fun i δ' μ' => ∃ x2 x3 x4 x5 x6 x7 x8, δ' = [some (.rl (ns.map .int)), some (.ref p), x2, x3, x4, x5, x6, x7, x8] ∧ Deal p q' [] μ',
    ⟨_, _, _, _, _, _, _, rfl, hD⟩, fun _ _ _ _ _ => trivial, ?_, ?_⟩
  · rintro i d δ' μ' hd ⟨x2, x3, x4, x5, x6, x7, x8, rfl, hD⟩
    walk_at "pd"
    refine ⟨p, q', [], _, _, rfl, Or.inl rfl, hD, by simp, by decide, fun v hv μ2 hD2 => ?_⟩
    have hv : v ∈ valsL := hv
    obtain ⟨t, ht⟩ := rep_all v hv
    clear hv
    walk_at "pd"
    refine ⟨v, rfl, fun p2 => ?_⟩
    walk_at "pd"
    refine lcd_fm (fun _ => false) id ?_
    walk_at "pd"
    refine itd_own List.mem_cons_self ?_
    refine ⟨by simp, List.mem_cons_self, fun d1 hd1 => ?_, ?_⟩
    · obtain rfl : d1 = v := (List.mem_replicate.mp hd1).2
      walk_at "pd"
      refine ht _ _ _ _ _ hr ?_
      walk_at "pd"
      refine ht _ _ _ _ _ hr ?_
      walk_at "pd"
      refine ⟨by simp, rfl, fun h => nomatch h⟩
    rw [show ∀ l : List D, (l.filter fun _ => false).map id = [] from fun l => by simp]
    walk_at "pd"
    refine opd_neNil hu0 ?_
    walk_at "pd"
    refine lcd_fm (fun _ => false) id ?_
    walk_at "pd"
    refine ⟨by simp [oneL], trivial, fun d1 hd1 => ?_, ?_⟩
    · obtain ⟨x, hx, rfl⟩ := List.mem_map.mp hd1
      obtain ⟨hx9, b0, b1, b2, b3, b4, b5, b6, b7, b8, b9, b10, b11, b12, E, hb⟩ := one_all T x hx
      unfold oneD exv1
      walk_at "pd"
      refine ⟨_, _, _, b0, b1, b2, b3, b4, b5, b6, b7, b8, b9, b10, b11, b12, rfl, E, ?_⟩
      walk_at "pd"
      refine ⟨x.1, rfl, hx9, ?_⟩
      rw [show ([.bl b0, .bl b1, .bl b2, .bl b3, .bl b4, .bl b5, .bl b6, .bl b7, .bl b8, .bl b9, .bl b10, .bl b11, .bl b12] : List D) = (dueB x.1).map .bl by rw [← hb]; rfl]
      refine opd_neV hu (.same _) (.same _) (bls_ok _).1 (bls_ok _).1 (bls_ok _).2 (bls_ok _).2 ?_
      rw [eqD_bls, decide_eq_true rfl]
      walk_at "pd"
      refine ⟨rfl, rfl, fun h => nomatch h⟩
    rw [show ∀ l : List D, (l.filter fun _ => false).map id = [] from fun l => by simp]
    walk_at "pd"
    refine opd_neNil hu0 ?_
    refine ⟨false, rfl, ?_⟩
    rw [if_neg (by decide)]
    refine sds_drop (μa := []) ?_
    walk_at "pd"
    exact ⟨_, _, _, _, _, _, _, rfl, hD2⟩
  · rintro δ' μ' ⟨x2, x3, x4, x5, x6, x7, x8, rfl, hD⟩
    walk_at "pd"
    refine ed_exc0 basVE (xe_InvalidGoal T) (xp_InvalidGoal T) (g_InvalidGoal T) ?_ (hg := by exact gl_of gl_law_InvalidGoal)
    walk_at "pd"
    refine ⟨_, [], [], _, _, _, _, _, _, _, _, _, _, _, _, _, rfl, eb_InvalidGoal T, ?_⟩
    walk_at "pd"
    refine ⟨5, rfl, by decide, ?_⟩
    show opd _ _ (.lst ((dueB 5).map D.bl)) (.lst ((dueB 5).map D.bl)) _ _ _
    refine opd_neV hu (.same _) (.same _) (bls_ok _).1 (bls_ok _).1 (bls_ok _).2 (bls_ok _).2 ?_
    rw [eqD_bls, decide_eq_true rfl]
    walk_at "pd"
    refine ed_exc0 basVE (xe_InvalidCommand T) (xp_InvalidCommand T) (g_InvalidCommand T) ?_ (hg := by exact gl_of gl_law_InvalidCommand)
    walk_at "pd"
    refine ⟨_, [], [], _, _, _, _, _, _, _, _, _, _, _, _, _, rfl, eb_InvalidCommand T, ?_⟩
    walk_at "pd"
    refine ⟨6, rfl, by decide, ?_⟩
    show opd _ _ (.lst ((dueB 6).map D.bl)) (.lst ((dueB 6).map D.bl)) _ _ _
    refine opd_neV hu (.same _) (.same _) (bls_ok _).1 (bls_ok _).1 (bls_ok _).2 (bls_ok _).2 ?_
    rw [eqD_bls, decide_eq_true rfl]
    walk_at "pd"
    refine ed_exc0 basVE (xe_EndError T) (xp_EndError T) (g_EndError T) ?_ (hg := by exact gl_of gl_law_EndError)
    walk_at "pd"
    refine ⟨_, [], [], _, _, _, _, _, _, _, _, _, _, _, _, _, rfl, eb_EndError T, ?_⟩
    walk_at "pd"
    refine opd_repL (by decide) (by decide) (by decide) ?_
    walk_at "pd"
    show opd _ _ (.lst (([false, false, false, false, false, false, false, false, false, false, true, true, false]).map D.bl)) (.lst (([false, false, false, false, false, false, false, false, false, false, true, true, false]).map D.bl)) _ _ _
    refine opd_eqV hu (.same _) (.same _) (bls_ok _).1 (bls_ok _).1 (bls_ok _).2 (bls_ok _).2 ?_
    rw [eqD_bls, decide_eq_true rfl]
    walk_at "pd"
    exact q _
end
end
theorem facts {P : Program} {w : World} {K : PySem.W.Frag} {h : Heap} {mg : Str → Option Value} {f : Addr} (X : K.In h) (G : h.Ns mainGlobals mg) (hfa : mg ("law" : Str) = some (.ref f)) (c : sayP fa fn fx ts ex K = valP fn fx ts w) :
    ∃ fd : FuncData, (∀ (s : Shared) (v : Value), BindsTo s fd ⟨[v], []⟩ [("_law_script", v)]) ∧ ∀ base : Heap, K.In base → base.Ns mainGlobals mg → FnD false P w K mg base 10 f fd ["_law_script"] spLaw := by
  have T : T0 w K mg := txp_of X G c
  obtain ⟨fd, F⟩ := f_law T
  cases hfa.symm.trans (g_law T)
  have b := FunD.bindsA (ps := ["_law_script"]) F fun _ _ _ _ _ _ us hl => match us, hl with | [_], _ => rfl
  exact ⟨fd, fun s v => b s [v] rfl, fun base _ _ => ok_law T F⟩
end LW
open PySem PySem.W PySem.Calls PyProof.Rows
theorem PySem.Challenge.cw_joinsback_k01_errors_and_what_they_keep_holds : PySem.Challenge.rw_joinsback_k01_errors_and_what_they_keep.Holds := by
  exact LW.fin fun P w K h mg f X G hfa c => LW.facts X G hfa c
